import PyProof.Rows.All
import Wide.All
import OpenK.AllK
import Wide.FinOn
import HandS.ForMost
import HandS.Exc
import HandS.Wide
import HandS.IsInst
import HandS.Property
import HandS.Defaults
import HandS.Style
import HandS.Walk
import HandS.Conv
import HandS.Deep
import HandS.Ends
import PySem.Challenge.RW_wholepaid_k29_whole_least_endless_of_all
set_option Elab.async false
set_option linter.all false
set_option maxRecDepth 100000
namespace Gm
open PySem L2

/-! ### what a value stands for -/
structure Rep (α : Type) where
  r : Hp → V → α → Prop
  mono : ∀ {H H' v a}, Same H H' → r H v a → r H' v a
abbrev jI : Rep Int := ⟨fun _ v n => v = .int n, fun _ h => h⟩
abbrev jB : Rep Bool := ⟨fun _ v b => v = .bl b, fun _ h => h⟩
abbrev jS : Rep Str := ⟨fun _ v x => v = .str x, fun _ h => h⟩
abbrev jN : Rep Unit := ⟨fun _ v _ => v = .non, fun _ h => h⟩
/-- the value itself -/
abbrev jV : Rep V := ⟨fun _ v a => v = a, fun _ h => h⟩
def All2 {α : Type} (A : Rep α) (H : Hp) : List V → List α → Prop
  | [], [] => True
  | v :: vs, a :: as => A.r H v a ∧ All2 A H vs as
  | _, _ => False
theorem All2.mono {α : Type} {A : Rep α} {H H' : Hp} (s : Same H H') : ∀ {vs : List V} {as : List α}, All2 A H vs as → All2 A H' vs as
  | [], [], _ => trivial
  | _ :: _, _ :: _, h => ⟨A.mono s h.1, All2.mono s h.2⟩
  | [], _ :: _, h => h.elim
  | _ :: _, [], h => h.elim
theorem All2.len {α : Type} {A : Rep α} {H : Hp} : ∀ {vs : List V} {as : List α}, All2 A H vs as → vs.length = as.length
  | [], [], _ => rfl
  | _ :: _, _ :: _, h => by simp [All2.len h.2]
  | [], _ :: _, h => h.elim
  | _ :: _, [], h => h.elim
theorem All2.app {α : Type} {A : Rep α} {H : Hp} : ∀ {vs : List V} {as : List α} {ws : List V} {bs : List α}, All2 A H vs as → All2 A H ws bs → All2 A H (vs ++ ws) (as ++ bs)
  | [], [], _, _, _, h => h
  | _ :: _, _ :: _, _, _, h, k => ⟨h.1, All2.app h.2 k⟩
  | [], _ :: _, _, _, h, _ => h.elim
  | _ :: _, [], _, _, h, _ => h.elim
theorem All2.get {α : Type} {A : Rep α} {H : Hp} : ∀ {vs : List V} {as : List α} {i : Nat} {a : α}, All2 A H vs as → as[i]? = some a → ∃ v, vs[i]? = some v ∧ A.r H v a
  | v :: _, _ :: _, 0, _, h, e => by simp at e; subst e; exact ⟨v, rfl, h.1⟩
  | _ :: vs, _ :: as, i + 1, a, h, e => by
    obtain ⟨v, h1, h2⟩ := All2.get (i := i) (a := a) h.2 (by simpa using e)
    exact ⟨v, by simpa using h1, h2⟩
  | [], [], _, _, _, e => by simp at e
  | [], _ :: _, _, _, h, _ => h.elim
  | _ :: _, [], _, _, h, _ => h.elim
theorem All2.getV {α : Type} {A : Rep α} {H : Hp} : ∀ {vs : List V} {as : List α} {i : Nat} {v : V}, All2 A H vs as → vs[i]? = some v → ∃ a, as[i]? = some a ∧ A.r H v a
  | _ :: _, a :: _, 0, _, h, e => by simp at e; subst e; exact ⟨a, rfl, h.1⟩
  | _ :: vs, _ :: as, i + 1, v, h, e => by
    obtain ⟨a, h1, h2⟩ := All2.getV (i := i) (v := v) h.2 (by simpa using e)
    exact ⟨a, by simpa using h1, h2⟩
  | [], [], _, _, _, e => by simp at e
  | [], _ :: _, _, _, h, _ => h.elim
  | _ :: _, [], _, _, h, _ => h.elim
theorem All2.drop {α : Type} {A : Rep α} {H : Hp} : ∀ {vs : List V} {as : List α} (n : Nat), All2 A H vs as → All2 A H (vs.drop n) (as.drop n)
  | _, _, 0, h => h
  | [], [], _ + 1, _ => trivial
  | _ :: _, _ :: _, n + 1, h => All2.drop n h.2
  | [], _ :: _, _ + 1, h => h.elim
  | _ :: _, [], _ + 1, h => h.elim
theorem All2.take {α : Type} {A : Rep α} {H : Hp} : ∀ {vs : List V} {as : List α} (n : Nat), All2 A H vs as → All2 A H (vs.take n) (as.take n)
  | [], [], 0, _ => trivial
  | _ :: _, _ :: _, 0, _ => trivial
  | [], [], _ + 1, _ => trivial
  | _ :: _, _ :: _, n + 1, h => ⟨h.1, All2.take n h.2⟩
  | [], _ :: _, _, h => h.elim
  | _ :: _, [], _, h => h.elim
theorem All2.set {α : Type} {A : Rep α} {H : Hp} {v : V} {a : α} (q : A.r H v a) : ∀ {vs : List V} {as : List α} (n : Nat), All2 A H vs as → All2 A H (vs.set n v) (as.set n a)
  | [], [], _, _ => trivial
  | _ :: _, _ :: _, 0, h => ⟨q, h.2⟩
  | _ :: _, _ :: _, n + 1, h => ⟨h.1, All2.set q n h.2⟩
  | [], _ :: _, _, h => h.elim
  | _ :: _, [], _, h => h.elim
theorem All2.erase {α : Type} {A : Rep α} {H : Hp} : ∀ {vs : List V} {as : List α} (n : Nat), All2 A H vs as → All2 A H (vs.eraseIdx n) (as.eraseIdx n)
  | [], [], _, _ => trivial
  | _ :: _, _ :: _, 0, h => h.2
  | _ :: _, _ :: _, n + 1, h => ⟨h.1, All2.erase n h.2⟩
  | [], _ :: _, _, h => h.elim
  | _ :: _, [], _, h => h.elim
theorem All2.rev {α : Type} {A : Rep α} {H : Hp} : ∀ {vs : List V} {as : List α}, All2 A H vs as → All2 A H vs.reverse as.reverse
  | [], [], _ => trivial
  | v :: vs, a :: as, h => by
    rw [List.reverse_cons, List.reverse_cons]
    exact All2.app (All2.rev h.2) ⟨h.1, trivial⟩
  | [], _ :: _, h => h.elim
  | _ :: _, [], h => h.elim
theorem All2.ints {H : Hp} : ∀ {vs : List V} {ns : List Int}, All2 jI H vs ns → vs = ns.map V.int
  | [], [], _ => rfl
  | _ :: _, _ :: _, h => by rw [List.map_cons, ← All2.ints h.2, show _ = V.int _ from h.1]
  | [], _ :: _, h => h.elim
  | _ :: _, [], h => h.elim
theorem All2.ofInts {H : Hp} : ∀ (ns : List Int), All2 jI H (ns.map V.int) ns
  | [] => trivial
  | _ :: ns => ⟨rfl, All2.ofInts ns⟩
theorem All2.bools {H : Hp} : ∀ {vs : List V} {ns : List Bool}, All2 jB H vs ns → vs = ns.map V.bl
  | [], [], _ => rfl
  | _ :: _, _ :: _, h => by rw [List.map_cons, ← All2.bools h.2, show _ = V.bl _ from h.1]
  | [], _ :: _, h => h.elim
  | _ :: _, [], h => h.elim
theorem All2.strs {H : Hp} : ∀ {vs : List V} {ns : List Str}, All2 jS H vs ns → vs = ns.map V.str
  | [], [], _ => rfl
  | _ :: _, _ :: _, h => by rw [List.map_cons, ← All2.strs h.2, show _ = V.str _ from h.1]
  | [], _ :: _, h => h.elim
  | _ :: _, [], h => h.elim
theorem All2.ofStrs {H : Hp} : ∀ (ns : List Str), All2 jS H (ns.map V.str) ns
  | [] => trivial
  | _ :: ns => ⟨rfl, All2.ofStrs ns⟩
section
variable {α β γ δ : Type}
def jL (A : Rep α) : Rep (List α) := ⟨fun H v l => ∃ p xs, v = .ref p ∧ H p = some (.lst xs) ∧ xs.length ≤ sizeLine ∧ All2 A H xs l, fun s ⟨p, xs, e, h, z, q⟩ => ⟨p, xs, e, s _ _ h, z, q.mono s⟩⟩
/-- a tuple of any length -/
def jT (A : Rep α) : Rep (List α) := ⟨fun H v l => ∃ p xs, v = .ref p ∧ H p = some (.tup xs) ∧ xs.length ≤ sizeLine ∧ All2 A H xs l, fun s ⟨p, xs, e, h, z, q⟩ => ⟨p, xs, e, s _ _ h, z, q.mono s⟩⟩
def jT2 (A : Rep α) (B : Rep β) : Rep (α × β) := ⟨fun H v t => ∃ p x y, v = .ref p ∧ H p = some (.tup [x, y]) ∧ A.r H x t.1 ∧ B.r H y t.2,
  fun s ⟨p, x, y, e, h, a, b⟩ => ⟨p, x, y, e, s _ _ h, A.mono s a, B.mono s b⟩⟩
def jT3 (A : Rep α) (B : Rep β) (C : Rep γ) : Rep (α × β × γ) := ⟨fun H v t => ∃ p x y z, v = .ref p ∧ H p = some (.tup [x, y, z]) ∧ A.r H x t.1 ∧ B.r H y t.2.1 ∧ C.r H z t.2.2,
  fun s ⟨p, x, y, z, e, h, a, b, c⟩ => ⟨p, x, y, z, e, s _ _ h, A.mono s a, B.mono s b, C.mono s c⟩⟩
def jT4 (A : Rep α) (B : Rep β) (C : Rep γ) (D : Rep δ) : Rep (α × β × γ × δ) := ⟨fun H v t => ∃ p x y z u, v = .ref p ∧ H p = some (.tup [x, y, z, u]) ∧ A.r H x t.1 ∧ B.r H y t.2.1 ∧ C.r H z t.2.2.1 ∧ D.r H u t.2.2.2,
  fun s ⟨p, x, y, z, u, e, h, a, b, c, d⟩ => ⟨p, x, y, z, u, e, s _ _ h, A.mono s a, B.mono s b, C.mono s c, D.mono s d⟩⟩
/-- None or something else -/
def jO (A : Rep α) : Rep (Option α) := ⟨fun H v o => (o = none ∧ v = .non) ∨ ∃ a, o = some a ∧ v ≠ .non ∧ A.r H v a, fun s h => h.imp id fun ⟨a, e, n, q⟩ => ⟨a, e, n, A.mono s q⟩⟩
end
/-! ### the world: what never changes any more, and all -/
structure Wd where
  S : Hp
  H : Hp
/-- what calls may change around: its places, and what holds of them -/
structure Am where
  F : Addr → Prop
  R : Nat → Hp → Prop
  up : ∀ {d d' H}, d ≤ d' → R d H → R d' H
  stab : ∀ {d H H'}, (∀ a o, F a → H a = some o → H' a = some o) → R d H → R d H'
  dom : ∀ {d H a}, R d H → F a → ∃ o, H a = some o
def Am.no : Am := ⟨fun _ => False, fun _ _ => True, fun _ h => h, fun _ h => h, fun _ h => h.elim⟩
structure Good (m : Am) (d : Nat) (W : Wd) : Prop where
  sub : ∀ a o, W.S a = some o → W.H a = some o
  amb : m.R d W.H
  out : ∀ a, m.F a → W.S a = none
theorem Good.up {m : Am} {d d' : Nat} {W : Wd} (g : Good m d W) (h : d ≤ d') : Good m d' W := ⟨g.sub, m.up h g.amb, g.out⟩
/-- from one world to a later one, good at d -/
structure Le (m : Am) (d : Nat) (W W' : Wd) : Prop where
  keep : ∀ a o, ¬ m.F a → W.H a = some o → W'.H a = some o
  ext : Same W.S W'.S
  new : ∀ a o, W.H a = some o → W.S a = none → W'.S a = none
  good : Good m d W'
theorem Le.up {m : Am} {d d' : Nat} {W W' : Wd} (l : Le m d W W') (h : d ≤ d') : Le m d' W W' := ⟨l.keep, l.ext, l.new, l.good.up h⟩
theorem Le.refl {m : Am} {d : Nat} {W : Wd} (g : Good m d W) : Le m d W W := ⟨fun _ _ _ h => h, fun _ _ h => h, fun _ _ _ h => h, g⟩
theorem Le.there {m : Am} {d : Nat} {W W' : Wd} (l : Le m d W W') {a : Addr} {o : HO} (h : W.H a = some o) : ∃ o', W'.H a = some o' := by
  by_cases f : m.F a
  · exact m.dom l.good.amb f
  · exact ⟨o, l.keep a o f h⟩
theorem Le.trans {m : Am} {d d' : Nat} {W W' W'' : Wd} (a : Le m d W W') (b : Le m d' W' W'') : Le m d' W W'' :=
  ⟨fun x o f h => b.keep x o f (a.keep x o f h), fun x o h => b.ext x o (a.ext x o h), fun x o h n => by
    obtain ⟨o', h'⟩ := a.there h
    exact b.new x o' h' (a.new x o h n), b.good⟩
theorem Le.fresh {m : Am} {d : Nat} {W W' : Wd} (l : Le m d W W') {p : Addr} (h : W'.H p = none) : W.H p = none := by
  cases q : W.H p with
  | none => rfl
  | some o =>
    obtain ⟨o', h'⟩ := l.there q
    rw [h] at h'; cases h'
theorem Good.fresh {m : Am} {d : Nat} {W : Wd} (g : Good m d W) {p : Addr} (h : W.H p = none) : W.S p = none := by
  cases q : W.S p with
  | none => rfl
  | some o =>
    rw [g.sub p o q] at h; cases h
theorem Good.nf {m : Am} {d : Nat} {W : Wd} (g : Good m d W) {p : Addr} (h : W.H p = none) : ¬ m.F p := fun f => by
  obtain ⟨o, e⟩ := m.dom g.amb f
  rw [h] at e; cases e
/-- a new object that never changes any more -/
theorem Good.lay {m : Am} {d : Nat} {W : Wd} (g : Good m d W) {p : Addr} {o : HO} (h : W.H p = none) : Le m d W ⟨upd W.S p o, upd W.H p o⟩ := by
  have hs := g.fresh h
  have nf := g.nf h
  refine ⟨fun a u _ e => ?_, fun a u e => ?_, fun a u e n => ?_, ⟨fun a u e => ?_, m.stab (fun a u f e => ?_) g.amb, fun a f => ?_⟩⟩
  · show upd W.H p o a = some u
    rw [upd_ne (ne_of_none e h)]; exact e
  · show upd W.S p o a = some u
    rw [upd_ne (ne_of_none e hs)]; exact e
  · show upd W.S p o a = none
    rw [upd_ne (ne_of_none e h)]; exact n
  · by_cases q : a = p
    · subst q
      have e' : upd W.S a o a = some u := e
      rw [upd_same] at e'
      show upd W.H a o a = some u
      rw [upd_same]; exact e'
    · have e' : upd W.S p o a = some u := e
      rw [upd_ne q] at e'
      show upd W.H p o a = some u
      rw [upd_ne q]; exact g.sub a u e'
  · show upd W.H p o a = some u
    rw [upd_ne (ne_of_none e h)]; exact e
  · show upd W.S p o a = none
    rw [upd_ne (fun q : a = p => nf (q ▸ f))]; exact g.out a f
/-- a new object that may change -/
theorem Good.put {m : Am} {d : Nat} {W : Wd} (g : Good m d W) {p : Addr} {o : HO} (h : W.H p = none) : Le m d W ⟨W.S, upd W.H p o⟩ := by
  refine ⟨fun a u _ e => ?_, fun a u e => e, fun a u e n => n, ⟨fun a u e => ?_, m.stab (fun a u f e => ?_) g.amb, g.out⟩⟩
  · show upd W.H p o a = some u
    rw [upd_ne (ne_of_none e h)]; exact e
  · show upd W.H p o a = some u
    have e' := g.sub a u e
    rw [upd_ne (ne_of_none e' h)]; exact e'
  · show upd W.H p o a = some u
    rw [upd_ne (ne_of_none e h)]; exact e
/-- an object of one's own changes -/
theorem Good.turn {m : Am} {d : Nat} {W : Wd} (g : Good m d W) {p : Addr} {o : HO} (hs : W.S p = none) (hf : ¬ m.F p) : Good m d ⟨W.S, upd W.H p o⟩ := by
  refine ⟨fun a u e => ?_, m.stab (fun a u f e => ?_) g.amb, g.out⟩
  · show upd W.H p o a = some u
    have q : a ≠ p := fun z => by
      rw [z] at e
      have e' : W.S p = some u := e
      rw [hs] at e'; cases e'
    rw [upd_ne q]; exact g.sub a u e
  · show upd W.H p o a = some u
    rw [upd_ne (fun q : a = p => hf (q ▸ f))]; exact e
theorem Le.turn {m : Am} {d : Nat} {B W : Wd} (l : Le m d B W) {p : Addr} {o : HO} (hb : B.H p = none) (hs : W.S p = none) (hf : ¬ m.F p) : Le m d B ⟨W.S, upd W.H p o⟩ :=
  ⟨fun a u f e => by
    show upd W.H p o a = some u
    rw [upd_ne (ne_of_none e hb)]; exact l.keep a u f e, l.ext, l.new, l.good.turn hs hf⟩
/-- an object of one's own comes to rest -/
theorem Good.rest {m : Am} {d : Nat} {W : Wd} (g : Good m d W) {p : Addr} {o : HO} (h : W.H p = some o) (hf : ¬ m.F p) : Good m d ⟨upd W.S p o, W.H⟩ := by
  refine ⟨fun a u e => ?_, g.amb, fun a f => ?_⟩
  · by_cases q : a = p
    · subst q
      have e' : upd W.S a o a = some u := e
      rw [upd_same] at e'
      rw [← e']; exact h
    · have e' : upd W.S p o a = some u := e
      rw [upd_ne q] at e'
      exact g.sub a u e'
  · show upd W.S p o a = none
    rw [upd_ne (fun q : a = p => hf (q ▸ f))]; exact g.out a f
theorem Same.rest {S : Hp} {p : Addr} {o : HO} (h : S p = none) : Same S (upd S p o) := fun a u e => by
  rw [upd_ne (ne_of_none e h)]; exact e
theorem Le.rest {m : Am} {d : Nat} {B W : Wd} (l : Le m d B W) {p : Addr} {o : HO} (hb : B.H p = none) (h : W.H p = some o) (hs : W.S p = none) (hf : ¬ m.F p) : Le m d B ⟨upd W.S p o, W.H⟩ :=
  ⟨l.keep, fun a u e => Same.rest hs a u (l.ext a u e), fun a u e n => by
    show upd W.S p o a = none
    rw [upd_ne (ne_of_none e hb)]; exact l.new a u e n, l.good.rest h hf⟩

/-! ### the slots -/
structure ORep (β : Type) where
  r : Hp → HO → β → Prop
  mono : ∀ {H H' o b}, Same H H' → r H o b → r H' o b
/-- a list of one's own -/
def oL {α : Type} (A : Rep α) : ORep (List α) := ⟨fun S o l => ∃ xs, o = .lst xs ∧ xs.length ≤ sizeLine ∧ All2 A S xs l, fun s ⟨xs, e, z, q⟩ => ⟨xs, e, z, q.mono s⟩⟩
inductive Ent : Type 1 where
  | pv {α : Type} (A : Rep α) (a : α)
  | own {β : Type} (p : Addr) (O : ORep β) (b : β)
abbrev Env := List (Option Ent)
def EntOk (m : Am) (W : Wd) (v : V) : Ent → Prop
  | .pv A a => A.r W.S v a
  | .own p O b => v = .ref p ∧ W.S p = none ∧ ¬ m.F p ∧ ∃ o, W.H p = some o ∧ O.r W.S o b
theorem EntOk.mono {m : Am} {d : Nat} {W W' : Wd} {v : V} (l : Le m d W W') : ∀ {e : Ent}, EntOk m W v e → EntOk m W' v e
  | .pv A _, h => A.mono l.ext h
  | .own p O _, ⟨e, s, f, o, h, q⟩ => ⟨e, l.new p o h s, f, o, l.keep p o f h, O.mono l.ext q⟩
structure EnvOk (m : Am) (Γ : Env) (σ : L2.St) (W : Wd) : Prop where
  len : σ.length = Γ.length
  at_ : ∀ (i : Nat) (e : Ent), Γ[i]? = some (some e) → ∃ v, σ[i]? = some (some v) ∧ EntOk m W v e
theorem EnvOk.mono {m : Am} {d : Nat} {Γ : Env} {σ : L2.St} {W W' : Wd} (l : Le m d W W') (h : EnvOk m Γ σ W) : EnvOk m Γ σ W' :=
  ⟨h.len, fun i e x => let ⟨v, a, b⟩ := h.at_ i e x; ⟨v, a, b.mono l⟩⟩
theorem EnvOk.set {m : Am} {Γ : Env} {σ : L2.St} {W : Wd} {e : Ent} {v : V} (i : Nat) (h : EnvOk m Γ σ W) (he : EntOk m W v e) : EnvOk m (Γ.set i (some e)) (σ.set i (some v)) W := by
  refine ⟨by simp [h.len], fun j e' x => ?_⟩
  by_cases q : j = i
  · subst q
    have hj : j < Γ.length := by
      have := (List.getElem?_eq_some_iff.mp x).1
      simpa using this
    rw [List.getElem?_set_self hj] at x
    cases x
    exact ⟨v, List.getElem?_set_self (by rw [h.len]; exact hj), he⟩
  · rw [List.getElem?_set_ne (Ne.symm q)] at x
    obtain ⟨w, a, b⟩ := h.at_ j e' x
    exact ⟨w, by rw [List.getElem?_set_ne (Ne.symm q)]; exact a, b⟩
/-- the one tells no more than the other -/
def Wk : Env → Env → Prop
  | [], [] => True
  | g :: Γ, g' :: Γ' => (g' = none ∨ g = g') ∧ Wk Γ Γ'
  | _, _ => False
theorem Wk.refl : ∀ {Γ : Env}, Wk Γ Γ
  | [] => trivial
  | _ :: _ => ⟨.inr rfl, Wk.refl⟩
theorem Wk.len : ∀ {Γ Γ' : Env}, Wk Γ Γ' → Γ.length = Γ'.length
  | [], [], _ => rfl
  | _ :: _, _ :: _, h => by simp [Wk.len h.2]
  | [], _ :: _, h => h.elim
  | _ :: _, [], h => h.elim
theorem Wk.get : ∀ {Γ Γ' : Env} {i : Nat} {e : Ent}, Wk Γ Γ' → Γ'[i]? = some (some e) → Γ[i]? = some (some e)
  | g :: _, g' :: _, 0, e, h, x => by
    simp at x
    rcases h.1 with q | q
    · rw [q] at x; cases x
    · rw [q, x]; rfl
  | _ :: Γ, _ :: Γ', i + 1, e, h, x => by
    have := Wk.get (i := i) (e := e) h.2 (by simpa using x)
    simpa using this
  | [], [], _, _, _, x => by simp at x
  | [], _ :: _, _, _, h, _ => h.elim
  | _ :: _, [], _, _, h, _ => h.elim
theorem EnvOk.weak {m : Am} {Γ Γ' : Env} {σ : L2.St} {W : Wd} (h : EnvOk m Γ σ W) (w : Wk Γ Γ') : EnvOk m Γ' σ W :=
  ⟨h.len.trans w.len, fun i e x => h.at_ i e (w.get x)⟩
end Gm

set_option Elab.async false
set_option linter.all false
set_option maxRecDepth 100000
namespace Gm
open PySem L2

/-! ### the weakest readings -/
section
variable (X : Cx)
def wE (e : Expr) : TE := fun σ H Q => ∀ pins s, Inv X pins σ H s → wpAny (model X.prog X.w) X.A (eval e X.env) (EP X pins σ Q) X.xe s
def wT (e : Expr) : TT := fun σ H Q => ∀ pins s, Inv X pins σ H s → wpAny (model X.prog X.w) X.A (isTrue e X.env (eval e X.env)) (TP X pins σ Q) X.xe s
def wW (e : Expr) : TT := fun σ H Q => ∀ whole pins s, Inv X pins σ H s → wpAny (model X.prog X.w) X.A (isTrue e X.env whole) (TP X pins σ Q) X.xe s
def wA (es : List Expr) : TA := fun σ H Q => ∀ pos pins s, Inv X pins σ H s → wpAny (model X.prog X.w) X.A (spliced (backTo pos (starEach es X.env))) (AP X pins σ Q) X.xe s
def wK (es : List Keyword) : TA := fun σ H Q => ∀ pos pins s, Inv X pins σ H s → wpAny (model X.prog X.w) X.A (evalAll ((backToKw pos (keywordEach es X.env)).map (·.2))) (AP X pins σ Q) X.xe s
def wG (tg : Expr) : TG := fun v σ H Q => ∀ pins s u, Inv X pins σ H s → RelV v u → wpAny (model X.prog X.w) X.A (assign tg X.env u) (fun _ s' => ∃ σ' H', Inv X pins σ' H' s' ∧ Q σ' H') X.xe s
def wS (sts : List Stmt) : TS := fun D σ H => ∀ pins s, Inv X pins σ H s → wpAny (model X.prog X.w) X.A (execs sts X.env) (SP X pins D) X.xe s
def w1 (st : Stmt) : TS := fun D σ H => ∀ pins s, Inv X pins σ H s → wpAny (model X.prog X.w) X.A (exec st X.env) (SP X pins D) X.xe s
def wI (tg iter : Expr) : TI := fun σ H R => ∀ pins s, Inv X pins σ H s →
    wpAny (model X.prog X.w) X.A (eval iter X.env) (fun v s1 => wpAny (model X.prog X.w) X.A (pyIter v) (PIE X pins σ tg R) X.xe s1) X.xe s
end
section
variable {X : Cx}
theorem pe_w {e : Expr} : PE X e (wE X e) := ⟨fun pins s _ _ _ I h => h pins s I⟩
theorem pt_w {e : Expr} : PT X e (wT X e) := ⟨fun pins s _ _ _ I h => h pins s I⟩
theorem pw_w {e : Expr} : PW X e (wW X e) := ⟨fun wh pins s _ _ _ I h => h wh pins s I⟩
theorem pa_w {es : List Expr} : PA X es (wA X es) := ⟨fun pos pins s _ _ _ I h => h pos pins s I⟩
theorem pg_w {e : Expr} : PG X e (wG X e) := ⟨fun pins s _ _ _ u _ I r h => h pins s u I r⟩
theorem pss_w {e : List Stmt} : PSs X e (wS X e) := ⟨fun pins s _ _ _ I h => h pins s I⟩
theorem ps_w {e : Stmt} : PS X e (w1 X e) := ⟨fun pins s _ _ _ I h => h pins s I⟩
theorem pi_w {tg e : Expr} : PI X tg e (wI X tg e) := ⟨fun pins s _ _ _ I h => h pins s I⟩
end

/-! ### judgements -/
section
variable {α β γ : Type}
def Ev (m : Am) (d : Nat) (t : TE) (Γ : Env) (A : Rep α) (P : α → Prop) (d' : Nat) : Prop := ∀ σ W, Good m d W → EnvOk m Γ σ W → ∀ Q : VK, (∀ v a W', P a → Le m d' W W' → A.r W'.S v a → Q v W'.H) → t σ W.H Q
/-- e is worth some a with P a; d, d': how often the state was drawn from, at the most, ahead of it and behind it -/
def GE (X : Cx) (m : Am) (d : Nat) (e : Expr) (Γ : Env) (A : Rep α) (P : α → Prop) (d' : Nat) : Prop := Ev m d (wE X e) Γ A P d'
def EvT (m : Am) (d : Nat) (t : TT) (Γ : Env) (P : Bool → Prop) (d' : Nat) : Prop := ∀ σ W, Good m d W → EnvOk m Γ σ W → ∀ Q : Bool → Hp → Prop, (∀ b W', P b → Le m d' W W' → Q b W'.H) → t σ W.H Q
def GT (X : Cx) (m : Am) (d : Nat) (e : Expr) (Γ : Env) (P : Bool → Prop) (d' : Nat) : Prop := EvT m d (wT X e) Γ P d'
def GW (X : Cx) (m : Am) (d : Nat) (e : Expr) (Γ : Env) (P : Bool → Prop) (d' : Nat) : Prop := EvT m d (wW X e) Γ P d'
structure ARep (τ : Type) where
  r : Hp → List V → τ → Prop
  mono : ∀ {H H' v a}, Same H H' → r H v a → r H' v a
def aN : ARep Unit := ⟨fun _ vs _ => vs = [], fun _ h => h⟩
def aC {τ : Type} (A : Rep α) (B : ARep τ) : ARep (α × τ) := ⟨fun H vs t => ∃ v r, vs = v :: r ∧ A.r H v t.1 ∧ B.r H r t.2, fun s ⟨v, r, e, a, b⟩ => ⟨v, r, e, A.mono s a, B.mono s b⟩⟩
def EvA {τ : Type} (m : Am) (d : Nat) (t : TA) (Γ : Env) (A : ARep τ) (P : τ → Prop) (d' : Nat) : Prop := ∀ σ W, Good m d W → EnvOk m Γ σ W → ∀ Q : List V → Hp → Prop, (∀ v a W', P a → Le m d' W W' → A.r W'.S v a → Q v W'.H) → t σ W.H Q
def GA {τ : Type} (X : Cx) (m : Am) (d : Nat) (es : List Expr) (Γ : Env) (A : ARep τ) (P : τ → Prop) (d' : Nat) : Prop := EvA m d (wA X es) Γ A P d'
/-- a target takes a value -/
inductive Sets (js : List Nat) (σ : L2.St) : L2.St → Prop
  | refl : Sets js σ σ
  | step {σ' : L2.St} {i : Nat} {v : V} : Sets js σ σ' → i ∈ js → Sets js σ (σ'.set i (some v))
def GB (X : Cx) (m : Am) (tg : Expr) (Γ : Env) (A : Rep α) (a : α) (Γ' : Env) (js : List Nat) : Prop :=
  ∀ d σ W v, Good m d W → EnvOk m Γ σ W → A.r W.S v a → ∀ Q : L2.St → Hp → Prop, (∀ σ', EnvOk m Γ' σ' W → Sets js σ σ' → Q σ' W.H) → wG X tg v σ W.H Q
/-- what a loop walks: the items of a list -/
structure Src (m : Am) (J : It) (A : Rep α) (l : List α) (W : Wd) : Prop where
  ex : ∃ (G : Hp → Prop) (Y : Nat → Hp → V → Hp → Prop), Walk J l.length G Y ∧ (∀ d W', Same W.S W'.S → Good m d W' → G W'.H) ∧
    ∀ d i W' x H', i < l.length → Same W.S W'.S → Good m d W' → Y i W'.H x H' → ∃ S' a, Le m d W' ⟨S', H'⟩ ∧ l[i]? = some a ∧ A.r S' x a
def EvI (m : Am) (d : Nat) (t : TI) (Γ : Env) (A : Rep α) (P : List α → Prop) (d' : Nat) : Prop := ∀ σ W, Good m d W → EnvOk m Γ σ W → ∀ R : It → Hp → Prop, (∀ J W' l, P l → Le m d' W W' → Src m J A l W' → R J W'.H) → t σ W.H R
def GI (X : Cx) (m : Am) (d : Nat) (tg iter : Expr) (Γ : Env) (A : Rep α) (P : List α → Prop) (d' : Nat) : Prop := EvI m d (wI X tg iter) Γ A P d'
end

section
variable {α β γ : Type} {X : Cx} {m : Am} {d d1 d2 d3 : Nat} {Γ : Env} {e a b : Expr} {A : Rep α} {B : Rep β} {C : Rep γ} {P P' : α → Prop} {pos p' : Pos}
theorem ge_of {t : TE} (h : PE X e t) (k : Ev m d t Γ A P d1) : GE X m d e Γ A P d1 := fun σ W g eo Q q pins s I => h.run pins s σ W.H Q I (k σ W g eo Q q)
theorem GE.imp (h : GE X m d e Γ A P d1) (k : ∀ a, P a → P' a) : GE X m d e Γ A P' d1 := fun σ W g eo Q q => h σ W g eo Q fun v a W' p => q v a W' (k a p)
theorem gt_of {t : TT} {P : Bool → Prop} (h : PT X e t) (k : EvT m d t Γ P d1) : GT X m d e Γ P d1 := fun σ W g eo Q q pins s I => h.run pins s σ W.H Q I (k σ W g eo Q q)
theorem gw_of {t : TT} {P : Bool → Prop} (h : PW X e t) (k : EvT m d t Γ P d1) : GW X m d e Γ P d1 := fun σ W g eo Q q wh pins s I => h.run wh pins s σ W.H Q I (k σ W g eo Q q)
theorem GT.imp {P P' : Bool → Prop} (h : GT X m d e Γ P d1) (k : ∀ a, P a → P' a) : GT X m d e Γ P' d1 := fun σ W g eo Q q => h σ W g eo Q fun b W' p => q b W' (k b p)
theorem ga_of {τ : Type} {A : ARep τ} {P : τ → Prop} {es : List Expr} {t : TA} (h : PA X es t) (k : EvA m d t Γ A P d1) : GA X m d es Γ A P d1 := fun σ W g eo Q q pos pins s I => h.run pos pins s σ W.H Q I (k σ W g eo Q q)
theorem gi_of {P : List α → Prop} {tg : Expr} {t : TI} (h : PI X tg e t) (k : EvI m d t Γ A P d1) : GI X m d tg e Γ A P d1 := fun σ W g eo R q pins s I => h.run pins s σ W.H R I (k σ W g eo R q)

/-! ### names, constants -/
theorem ge_var (i : Nat) {x : Str} {a : α} (hN : X.N[i]? = some x := by rfl) (hv : Vis X.env.scope x := by first | exact Or.inl rfl | exact Or.inr (Or.inl rfl) | exact Or.inr (Or.inr rfl)) (hΓ : Γ[i]? = some (some (.pv A a)) := by rfl)
    (hd : (x == ("__debug__" : Str)) = false := by decide) (hcd : (x == ("__classdict__" : Str)) = false := by decide) : GE X m d (.Name x pos) Γ A (fun z => z = a) d :=
  ge_of (pe_var hN hv hd hcd) fun σ W g eo Q q => by
    obtain ⟨v, h1, h2⟩ := eo.at_ i _ hΓ
    exact ⟨v, h1, q v a W rfl (Le.refl g) h2⟩
/-- the place of an object of one's own -/
theorem ge_own (i : Nat) {x : Str} {O : ORep β} {b : β} {p : Addr} (hN : X.N[i]? = some x := by rfl) (hv : Vis X.env.scope x := by first | exact Or.inl rfl | exact Or.inr (Or.inl rfl) | exact Or.inr (Or.inr rfl)) (hΓ : Γ[i]? = some (some (.own p O b)) := by rfl)
    (hd : (x == ("__debug__" : Str)) = false := by decide) (hcd : (x == ("__classdict__" : Str)) = false := by decide) : GE X m d (.Name x pos) Γ jV (fun z => z = .ref p) d :=
  ge_of (pe_var hN hv hd hcd) fun σ W g eo Q q => by
    obtain ⟨v, h1, h2, h3⟩ := eo.at_ i _ hΓ
    exact ⟨v, h1, q v _ W rfl (Le.refl g) h2⟩
theorem ge_c {v : V} {a : α} (h : PE X e (tC v)) (hr : ∀ H, A.r H v a) : GE X m d e Γ A (fun z => z = a) d := ge_of h fun σ W g eo Q q => q v a W rfl (Le.refl g) (hr _)
theorem ge_int {i : Int} {j : Nat} : GE X m d (.Constant (.int i) j pos) Γ jI (fun z => z = i) d := ge_c pe_int fun _ => rfl
theorem ge_bool {i : Bool} {j : Nat} : GE X m d (.Constant (.bool i) j pos) Γ jB (fun z => z = i) d := ge_c pe_bl fun _ => rfl
theorem ge_str {i : Str} {j : Nat} : GE X m d (.Constant (.str i) j pos) Γ jS (fun z => z = i) d := ge_c pe_str fun _ => rfl
theorem ge_none {j : Nat} : GE X m d (.Constant .none j pos) Γ (jO A) (fun z => z = none) d := ge_c pe_non fun _ => .inl ⟨rfl, rfl⟩
theorem ge_unit {j : Nat} : GE X m d (.Constant .none j pos) Γ jN (fun z => z = ()) d := ge_c pe_non fun _ => rfl
theorem ge_gint {x : Str} {i : Int} (hg : Gl X x) {u : Value} (hm : X.mg x = some u) (r : RelV (.int i) u) (hd : (x == ("__debug__" : Str)) = false := by decide) : GE X m d (.Name x pos) Γ jI (fun z => z = i) d := ge_c (pe_glob hg hm r hd) fun _ => rfl
theorem ge_gstr {x : Str} {i : Str} (hg : Gl X x) {u : Value} (hm : X.mg x = some u) (r : RelV (.str i) u) (hd : (x == ("__debug__" : Str)) = false := by decide) : GE X m d (.Name x pos) Γ jS (fun z => z = i) d := ge_c (pe_glob hg hm r hd) fun _ => rfl
theorem GE.some (h : GE X m d e Γ A P d1) (hn : ∀ H v a, A.r H v a → v ≠ .non) : GE X m d e Γ (jO A) (fun o => ∃ a, o = Option.some a ∧ P a) d1 := fun σ W g eo Q q =>
  h σ W g eo Q fun v a W' p l r => q v (Option.some a) W' ⟨a, rfl, p⟩ l (.inr ⟨a, rfl, hn _ _ _ r, r⟩)
theorem GE.some' {a : α} (h : GE X m d e Γ A (fun z => z = a) d1) (hn : ∀ H v a, A.r H v a → v ≠ .non) : GE X m d e Γ (jO A) (fun z => z = Option.some a) d1 := (h.some hn).imp fun _ ⟨_, h1, h2⟩ => h2 ▸ h1
theorem jI_nn : ∀ H v a, jI.r H v a → v ≠ .non := fun _ _ _ h e => by rw [show _ = V.int _ from h] at e; cases e

/-! ### operators -/
/-- what a two-place operation on values does -/
def OpV (m : Am) (r : R2) (A : Rep α) (B : Rep β) (C : Rep γ) (S : α → β → Prop) (f : α → β → γ → Prop) : Prop :=
  ∀ d W x y a b, Good m d W → A.r W.S x a → B.r W.S y b → S a b → ∀ Q : VK, (∀ v c W', f a b c → Le m d W W' → C.r W'.S v c → Q v W'.H) → r x y W.H Q
theorem ev_op2 {r : R2} {S : α → β → Prop} {f : α → β → γ → Prop} {P1 : α → Prop} {P2 : β → Prop} {ta tb : TE} (hv : OpV m r A B C S f) (ha : Ev m d ta Γ A P1 d1) (hb : Ev m d1 tb Γ B P2 d2) (hs : ∀ x y, P1 x → P2 y → S x y) :
    Ev m d (tOp r ta tb) Γ C (fun z => ∃ x y, P1 x ∧ P2 y ∧ f x y z) d2 := fun σ W g eo Q q =>
  ha σ W g eo _ fun v x W1 p1 l1 r1 => hb σ W1 l1.good (eo.mono l1) _ fun u y W2 p2 l2 r2 =>
    hv _ W2 v u x y l2.good (A.mono l2.ext r1) r2 (hs x y p1 p2) Q fun z c W3 p3 l3 r3 => q z c W3 ⟨x, y, p1, p2, p3⟩ ((l1.trans l2).trans l3) r3
theorem ev_op2F {r : R2} {S : α → β → Prop} {f : α → β → γ} {x : α} {y : β} {ta tb : TE} (hv : OpV m r A B C S (fun a b c => c = f a b)) (ha : Ev m d ta Γ A (fun z => z = x) d1) (hb : Ev m d1 tb Γ B (fun z => z = y) d2) (hs : S x y) :
    Ev m d (tOp r ta tb) Γ C (fun z => z = f x y) d2 := fun σ W g eo Q q => ev_op2 hv ha hb (fun a b e1 e2 => by rw [e1, e2]; exact hs) σ W g eo Q fun v c W' ⟨a, b, e1, e2, e3⟩ l r => q v c W' (by rw [e3, e1, e2]) l r
theorem ge_bin {op : Operator} {r : R2} {S : α → β → Prop} {f : α → β → γ → Prop} {P1 : α → Prop} {P2 : β → Prop} (ho : OpR X (binaryOp op) r) (hv : OpV m r A B C S f) (ha : GE X m d a Γ A P1 d1) (hb : GE X m d1 b Γ B P2 d2) (hs : ∀ x y, P1 x → P2 y → S x y) :
    GE X m d (.BinOp a op b pos) Γ C (fun z => ∃ x y, P1 x ∧ P2 y ∧ f x y z) d2 := ge_of (pe_op ho pe_w pe_w) (ev_op2 hv ha hb hs)
theorem ge_binF {op : Operator} {r : R2} {S : α → β → Prop} {f : α → β → γ} {x : α} {y : β} (ho : OpR X (binaryOp op) r) (hv : OpV m r A B C S (fun a b c => c = f a b)) (ha : GE X m d a Γ A (fun z => z = x) d1) (hb : GE X m d1 b Γ B (fun z => z = y) d2) (hs : S x y) :
    GE X m d (.BinOp a op b pos) Γ C (fun z => z = f x y) d2 := ge_of (pe_op ho pe_w pe_w) (ev_op2F hv ha hb hs)
theorem ge_cmp {op : CmpOp} {r : R2} {S : α → β → Prop} {f : α → β → γ → Prop} {P1 : α → Prop} {P2 : β → Prop} (ho : OpR X (compareOp op) r) (hv : OpV m r A B C S f) (ha : GE X m d a Γ A P1 d1) (hb : GE X m d1 b Γ B P2 d2) (hs : ∀ x y, P1 x → P2 y → S x y) (hm : behindInMarks op b = false) :
    GE X m d (.Compare a [op] [b] pos) Γ C (fun z => ∃ x y, P1 x ∧ P2 y ∧ f x y z) d2 := ge_of (pe_cmpR ho pe_w pe_w hm) (ev_op2 hv ha hb hs)
theorem ge_cmpF {op : CmpOp} {r : R2} {S : α → β → Prop} {f : α → β → γ} {x : α} {y : β} (ho : OpR X (compareOp op) r) (hv : OpV m r A B C S (fun a b c => c = f a b)) (ha : GE X m d a Γ A (fun z => z = x) d1) (hb : GE X m d1 b Γ B (fun z => z = y) d2) (hs : S x y) (hm : behindInMarks op b = false) :
    GE X m d (.Compare a [op] [b] pos) Γ C (fun z => z = f x y) d2 := ge_of (pe_cmpR ho pe_w pe_w hm) (ev_op2F hv ha hb hs)
theorem ev_test {t : TE} {P : Bool → Prop} (h : Ev m d t Γ jB P d1) : EvT m d (tTest t) Γ P d1 := fun σ W g eo Q q => h σ W g eo _ fun v b W' p l r => ⟨b, r, q b W' p l⟩
theorem ev_tB {t : TE} {P : Bool → Prop} (h : Ev m d t Γ jB P d1) : EvT m d (tB t) Γ P d1 := fun σ W g eo Q q => h σ W g eo _ fun v b W' p l r => ⟨b, r, q b W' p l⟩
theorem gt_cmp {op : CmpOp} {r : R2} {S : α → β → Prop} {f : α → β → Bool → Prop} {P1 : α → Prop} {P2 : β → Prop} (ho : OpR X (compareOp op) r) (hv : OpV m r A B jB S f) (ha : GE X m d a Γ A P1 d1) (hb : GE X m d1 b Γ B P2 d2) (hs : ∀ x y, P1 x → P2 y → S x y) (hm : behindInMarks op b = false) :
    GT X m d (.Compare a [op] [b] pos) Γ (fun z => ∃ x y, P1 x ∧ P2 y ∧ f x y z) d2 := gt_of (pt_cmpR ho pe_w pe_w hm) (ev_test (ev_op2 hv ha hb hs))
theorem gt_cmpF {op : CmpOp} {r : R2} {S : α → β → Prop} {f : α → β → Bool} {x : α} {y : β} (ho : OpR X (compareOp op) r) (hv : OpV m r A B jB S (fun a b c => c = f a b)) (ha : GE X m d a Γ A (fun z => z = x) d1) (hb : GE X m d1 b Γ B (fun z => z = y) d2) (hs : S x y) (hm : behindInMarks op b = false) :
    GT X m d (.Compare a [op] [b] pos) Γ (fun z => z = f x y) d2 := gt_of (pt_cmpR ho pe_w pe_w hm) (ev_test (ev_op2F hv ha hb hs))
theorem gt_val {P : Bool → Prop} (h : GE X m d e Γ jB P d1) (he : ∀ whole, isTrue e X.env whole = (do let v ← whole; standAt e.pos; holding [v] (truthy v)) := by intro _; rfl) : GT X m d e Γ P d1 := gt_of (pt_val pe_w he) (ev_tB h)
/-- a < b < c of ints -/
theorem ge_chain {op op' : CmpOp} {f f' : Int → Int → Bool} {x y z : Int} {c : Expr} (ho : OpR X (compareOp op) (L2.rI0 fun i j => .bl (f i j))) (ho' : OpR X (compareOp op') (L2.rI0 fun i j => .bl (f' i j)))
    (ha : GE X m d a Γ jI (fun z => z = x) d1) (hb : GE X m d1 b Γ jI (fun z => z = y) d2) (hc : GE X m d2 c Γ jI (fun w => w = z) d3) (hd : d2 ≤ d3 := by first | exact Nat.le_refl _ | omega) (hm : lastMarks [op, op'] [b, c] = false := by rfl) :
    GE X m d (.Compare a [op, op'] [b, c] pos) Γ jB (fun r => r = (f x y && f' y z)) d3 := ge_of (pe_chain ho ho' pe_w pe_w pe_w (hm := hm)) fun σ W g eo Q q =>
  ha σ W g eo _ fun v i W1 e1 l1 r1 => hb σ W1 l1.good (eo.mono l1) _ fun u j W2 e2 l2 r2 => by
    have r1' : v = .int i := r1
    have r2' : u = .int j := r2
    subst r1'; subst r2'; subst e1; subst e2
    refine ⟨i, j, rfl, rfl, f i j, rfl, ?_⟩
    cases hf : f i j with
    | true =>
      refine iteT (hc σ W2 l2.good (eo.mono (l1.trans l2)) _ fun w k W3 e3 l3 r3 => ?_)
      have r3' : w = .int k := r3
      subst r3'; subst e3
      exact ⟨j, k, rfl, rfl, q _ _ W3 (by rw [hf, Bool.true_and]) ((l1.trans l2).trans l3) rfl⟩
    | false => exact iteF (q _ false W2 (by rw [hf, Bool.false_and]) ((l1.trans l2).up hd) rfl)
theorem gt_chain {op op' : CmpOp} {f f' : Int → Int → Bool} {x y z : Int} {c : Expr} (ho : OpR X (compareOp op) (L2.rI0 fun i j => .bl (f i j))) (ho' : OpR X (compareOp op') (L2.rI0 fun i j => .bl (f' i j)))
    (ha : GE X m d a Γ jI (fun z => z = x) d1) (hb : GE X m d1 b Γ jI (fun z => z = y) d2) (hc : GE X m d2 c Γ jI (fun w => w = z) d3) (hd : d2 ≤ d3 := by first | exact Nat.le_refl _ | omega) (hm : lastMarks [op, op'] [b, c] = false := by rfl) :
    GT X m d (.Compare a [op, op'] [b, c] pos) Γ (fun r => r = (f x y && f' y z)) d3 := gt_of (pt_chain ho ho' pe_w pe_w pe_w (hm := hm)) fun σ W g eo Q q =>
  ha σ W g eo _ fun v i W1 e1 l1 r1 => hb σ W1 l1.good (eo.mono l1) _ fun u j W2 e2 l2 r2 => by
    have r1' : v = .int i := r1
    have r2' : u = .int j := r2
    subst r1'; subst r2'; subst e1; subst e2
    refine ⟨i, j, rfl, rfl, f i j, rfl, ?_⟩
    cases hf : f i j with
    | true =>
      refine iteT (hc σ W2 l2.good (eo.mono (l1.trans l2)) _ fun w k W3 e3 l3 r3 => ?_)
      have r3' : w = .int k := r3
      subst r3'; subst e3
      exact ⟨j, k, rfl, rfl, f' j k, rfl, q _ W3 (by rw [hf, Bool.true_and]) ((l1.trans l2).trans l3)⟩
    | false => exact iteF ⟨false, rfl, q false W2 (by rw [hf, Bool.false_and]) ((l1.trans l2).up hd)⟩

/-! ### and, or, not -/
theorem gw_and1 {P : Bool → Prop} (h : GT X m d a Γ P d1) : GW X m d (.BoolOp .And [a] pos) Γ P d1 := gw_of (pw_and1 pt_w) h
theorem gw_or1 {P : Bool → Prop} (h : GT X m d a Γ P d1) : GW X m d (.BoolOp .Or [a] pos) Γ P d1 := gw_of (pw_or1 pt_w) h
theorem gw_and {P1 P2 : Bool → Prop} {rest : List Expr} (h : GT X m d a Γ P1 d1) (k : P1 true → GW X m d1 (.BoolOp .And (b :: rest) pos) Γ P2 d2) (hd : d1 ≤ d2 := by first | exact Nat.le_refl _ | omega) : GW X m d (.BoolOp .And (a :: b :: rest) pos) Γ (fun c => (P1 false ∧ c = false) ∨ (P1 true ∧ P2 c)) d2 :=
  gw_of (pw_and pt_w pw_w) fun σ W g eo Q q => h σ W g eo _ fun c W1 p l => by
    cases c with
    | true => exact iteT (k p σ W1 l.good (eo.mono l) Q fun d W2 p2 l2 => q d W2 (.inr ⟨p, p2⟩) (l.trans l2))
    | false => exact iteF (q false W1 (.inl ⟨p, rfl⟩) (l.up hd))
theorem gw_or {P1 P2 : Bool → Prop} {rest : List Expr} (h : GT X m d a Γ P1 d1) (k : P1 false → GW X m d1 (.BoolOp .Or (b :: rest) pos) Γ P2 d2) (hd : d1 ≤ d2 := by first | exact Nat.le_refl _ | omega) : GW X m d (.BoolOp .Or (a :: b :: rest) pos) Γ (fun c => (P1 true ∧ c = true) ∨ (P1 false ∧ P2 c)) d2 :=
  gw_of (pw_or pt_w pw_w) fun σ W g eo Q q => h σ W g eo _ fun c W1 p l => by
    cases c with
    | true => exact iteT (q true W1 (.inl ⟨p, rfl⟩) (l.up hd))
    | false => exact iteF (k p σ W1 l.good (eo.mono l) Q fun d W2 p2 l2 => q d W2 (.inr ⟨p, p2⟩) (l.trans l2))
theorem gw_andF {x : Bool} {y : Bool} {rest : List Expr} (h : GT X m d a Γ (fun z => z = x) d1) (k : x = true → GW X m d1 (.BoolOp .And (b :: rest) pos) Γ (fun z => z = y) d2) (hd : d1 ≤ d2 := by first | exact Nat.le_refl _ | omega) : GW X m d (.BoolOp .And (a :: b :: rest) pos) Γ (fun z => z = (x && y)) d2 :=
  fun σ W g eo Q q => gw_and h (fun e => k e.symm) hd σ W g eo Q fun c W' p l => q c W' (by rcases p with ⟨e1, e2⟩ | ⟨e1, e2⟩ <;> rw [← e1, e2] <;> simp) l
theorem gw_orF {x : Bool} {y : Bool} {rest : List Expr} (h : GT X m d a Γ (fun z => z = x) d1) (k : x = false → GW X m d1 (.BoolOp .Or (b :: rest) pos) Γ (fun z => z = y) d2) (hd : d1 ≤ d2 := by first | exact Nat.le_refl _ | omega) : GW X m d (.BoolOp .Or (a :: b :: rest) pos) Γ (fun z => z = (x || y)) d2 :=
  fun σ W g eo Q q => gw_or h (fun e => k e.symm) hd σ W g eo Q fun c W' p l => q c W' (by rcases p with ⟨e1, e2⟩ | ⟨e1, e2⟩ <;> rw [← e1, e2] <;> simp) l
theorem GW.gt {P : Bool → Prop} (h : GW X m d e Γ P d1) : GT X m d e Γ P d1 := gt_of pw_w.pt h
theorem gt_not {P : Bool → Prop} (h : GT X m d a Γ P d1) : GT X m d (.UnaryOp .Not a pos) Γ (fun c => P (!c)) d1 := gt_of (pt_not pt_w) fun σ W g eo Q q => h σ W g eo _ fun c W' p l => q (!c) W' (by rw [Bool.not_not]; exact p) l
theorem gt_notF {x : Bool} (h : GT X m d a Γ (fun z => z = x) d1) : GT X m d (.UnaryOp .Not a pos) Γ (fun c => c = !x) d1 := (gt_not h).imp fun c e => by rw [← e, Bool.not_not]
theorem ge_one {op : BoolOp} (h : GE X m d a Γ A P d1) : GE X m d (.BoolOp op [a] pos) Γ A P d1 := ge_of (pe_one pe_w) h
theorem ge_and {x y : Bool} {rest : List Expr} (h : GE X m d a Γ jB (fun z => z = x) d1) (k : x = true → GE X m d1 (.BoolOp .And (b :: rest) pos) Γ jB (fun z => z = y) d2) (hd : d1 ≤ d2 := by first | exact Nat.le_refl _ | omega) : GE X m d (.BoolOp .And (a :: b :: rest) pos) Γ jB (fun z => z = (x && y)) d2 :=
  ge_of (pe_and pe_w pe_w) fun σ W g eo Q q => h σ W g eo _ fun v c W1 p l r => ⟨c, r, by
    subst p
    cases c with
    | true => exact iteT (k rfl σ W1 l.good (eo.mono l) Q fun d z W2 p2 l2 r2 => q d z W2 (by rw [p2]; rfl) (l.trans l2) r2)
    | false => exact iteF (q _ false W1 rfl (l.up hd) rfl)⟩
theorem ge_or {x y : Bool} {rest : List Expr} (h : GE X m d a Γ jB (fun z => z = x) d1) (k : x = false → GE X m d1 (.BoolOp .Or (b :: rest) pos) Γ jB (fun z => z = y) d2) (hd : d1 ≤ d2 := by first | exact Nat.le_refl _ | omega) : GE X m d (.BoolOp .Or (a :: b :: rest) pos) Γ jB (fun z => z = (x || y)) d2 :=
  ge_of (pe_or pe_w pe_w) fun σ W g eo Q q => h σ W g eo _ fun v c W1 p l r => ⟨c, r, by
    subst p
    cases c with
    | true => exact iteT (q _ true W1 rfl (l.up hd) rfl)
    | false => exact iteF (k rfl σ W1 l.good (eo.mono l) Q fun d z W2 p2 l2 r2 => q d z W2 (by rw [p2]; rfl) (l.trans l2) r2)⟩
theorem ge_not {x : Bool} (h : GE X m d a Γ jB (fun z => z = x) d1) : GE X m d (.UnaryOp .Not a pos) Γ jB (fun z => z = !x) d1 := ge_of (pe_not pe_w) fun σ W g eo Q q => h σ W g eo _ fun v c W1 p l r => ⟨c, r, q _ (!c) W1 (by rw [p]) l rfl⟩
theorem ge_if {P1 : Bool → Prop} {P2 P3 : α → Prop} {c : Expr} (h : GT X m d c Γ P1 d1) (h1 : P1 true → GE X m d1 a Γ A P2 d2) (h2 : P1 false → GE X m d1 b Γ A P3 d2) : GE X m d (.IfExp c a b pos) Γ A (fun z => (P1 true ∧ P2 z) ∨ (P1 false ∧ P3 z)) d2 :=
  ge_of (pe_ifExp pt_w pe_w pe_w) fun σ W g eo Q q => h σ W g eo _ fun c W1 p l => by
    cases c with
    | true => exact iteT (h1 p σ W1 l.good (eo.mono l) Q fun d z W2 p2 l2 r2 => q d z W2 (.inl ⟨p, p2⟩) (l.trans l2) r2)
    | false => exact iteF (h2 p σ W1 l.good (eo.mono l) Q fun d z W2 p2 l2 r2 => q d z W2 (.inr ⟨p, p2⟩) (l.trans l2) r2)
theorem ge_ifF {c : Expr} {x : Bool} {y z : α} (h : GT X m d c Γ (fun b => b = x) d1) (h1 : x = true → GE X m d1 a Γ A (fun w => w = y) d2) (h2 : x = false → GE X m d1 b Γ A (fun w => w = z) d2) : GE X m d (.IfExp c a b pos) Γ A (fun w => w = if x = true then y else z) d2 :=
  (ge_if h (fun e => h1 e.symm) (fun e => h2 e.symm)).imp fun w p => by rcases p with ⟨e1, e2⟩ | ⟨e1, e2⟩ <;> rw [← e1, e2] <;> simp
end
end Gm

set_option Elab.async false
set_option linter.all false
set_option maxRecDepth 100000
namespace Gm
open PySem L2
section
variable {α β γ δ τ : Type} {X : Cx} {m : Am} {d d1 d2 d3 : Nat} {Γ : Env} {e a b : Expr} {A : Rep α} {B : Rep β} {C : Rep γ} {P P' : α → Prop} {pos p' : Pos}

/-! ### arguments, tuples, lists -/
theorem ga_nil : GA X m d [] Γ aN (fun _ => True) d := ga_of pa_nil fun σ W g eo Q q => q [] () W trivial (Le.refl g) rfl
theorem ga_cons {es : List Expr} {R : ARep τ} {P1 : α → Prop} {P2 : τ → Prop} (h : GE X m d e Γ A P1 d1) (k : GA X m d1 es Γ R P2 d2) (hst : starEach (e :: es) X.env = (false, eval e X.env) :: starEach es X.env := by rfl) : GA X m d (e :: es) Γ (aC A R) (fun t => P1 t.1 ∧ P2 t.2) d2 :=
  ga_of (pa_cons pe_w pa_w hst) fun σ W g eo Q q => h σ W g eo _ fun v x W1 p1 l1 r1 => k σ W1 l1.good (eo.mono l1) _ fun vs t W2 p2 l2 r2 =>
    q (v :: vs) (x, t) W2 ⟨p1, p2⟩ (l1.trans l2) ⟨v, vs, rfl, A.mono l2.ext r1, r2⟩
theorem ga_nilF : GA X m d [] Γ aN (fun t => t = ()) d := fun σ W g eo Q q => ga_nil σ W g eo Q fun v a W' _ l r => q v a W' rfl l r
theorem ga_consF {es : List Expr} {R : ARep τ} {x : α} {t : τ} (h : GE X m d e Γ A (fun z => z = x) d1) (k : GA X m d1 es Γ R (fun z => z = t) d2) (hst : starEach (e :: es) X.env = (false, eval e X.env) :: starEach es X.env := by rfl) : GA X m d (e :: es) Γ (aC A R) (fun z => z = (x, t)) d2 :=
  fun σ W g eo Q q => ga_cons h k hst σ W g eo Q fun v a W' p l r => q v a W' (by obtain ⟨a1, a2⟩ := a; obtain ⟨p1, p2⟩ := p; cases p1; cases p2; rfl) l r
theorem GA.imp {es : List Expr} {R : ARep τ} {P P' : τ → Prop} (h : GA X m d es Γ R P d1) (k : ∀ t, P t → P' t) : GA X m d es Γ R P' d1 := fun σ W g eo Q q => h σ W g eo Q fun v a W' p l r => q v a W' (k a p) l r
/-- what a tuple of values is worth -/
structure TupRep (R : ARep τ) (C : Rep γ) (f : τ → γ) : Prop where
  small : ∀ S vs t, R.r S vs t → vs.length ≤ 10
  made : ∀ S p vs t, R.r S vs t → S p = some (.tup vs) → C.r S (.ref p) (f t)
theorem ge_tup {es : List Expr} {k : Nat} {R : ARep τ} {f : τ → γ} {P : τ → Prop} (T : TupRep R C f) (h : GA X m d es Γ R P d1) : GE X m d (.Tuple es k pos) Γ C (fun z => ∃ t, P t ∧ z = f t) d1 :=
  ge_of (pe_tup pa_w) fun σ W g eo Q q => h σ W g eo _ fun vs t W1 p1 l1 r1 => ⟨Nat.le_trans (T.small _ _ _ r1) (by decide), fun p np => by
    have l2 := l1.good.lay (o := .tup vs) np
    exact q (.ref p) (f t) _ ⟨t, p1, rfl⟩ (l1.trans l2) (T.made _ p vs t (R.mono l2.ext r1) (by show upd W1.S p _ p = _; rw [upd_same]))⟩
theorem ge_tupF {es : List Expr} {k : Nat} {R : ARep τ} {f : τ → γ} {t : τ} (T : TupRep R C f) (h : GA X m d es Γ R (fun z => z = t) d1) : GE X m d (.Tuple es k pos) Γ C (fun z => z = f t) d1 := (ge_tup T h).imp fun _ ⟨_, e1, e2⟩ => by rw [e2, e1]
theorem tr2 : TupRep (aC A (aC B aN)) (jT2 A B) (fun t => (t.1, t.2.1)) := ⟨fun S vs t ⟨v, r, e, _, w, r', e', _, e''⟩ => by rw [e, e', show r' = [] from e'']; show 2 ≤ 10; decide,
  fun S p vs t ⟨v, r, e, h1, w, r', e', h2, e''⟩ h => ⟨p, v, w, rfl, by rw [h, e, e', show r' = [] from e''], h1, h2⟩⟩
theorem tr3 : TupRep (aC A (aC B (aC C aN))) (jT3 A B C) (fun t => (t.1, t.2.1, t.2.2.1)) := ⟨fun S vs t ⟨v, r, e, _, w, r', e', _, u, r'', e'', _, e3⟩ => by rw [e, e', e'', show r'' = [] from e3]; show 3 ≤ 10; decide,
  fun S p vs t ⟨v, r, e, h1, w, r', e', h2, u, r'', e'', h3, e3⟩ h => ⟨p, v, w, u, rfl, by rw [h, e, e', e'', show r'' = [] from e3], h1, h2, h3⟩⟩
theorem tr4 {D : Rep δ} : TupRep (aC A (aC B (aC C (aC D aN)))) (jT4 A B C D) (fun t => (t.1, t.2.1, t.2.2.1, t.2.2.2.1)) := ⟨fun S vs t ⟨v, r, e, _, w, r', e', _, u, r'', e'', _, z, r3, e3, _, e4⟩ => by rw [e, e', e'', e3, show r3 = [] from e4]; show 4 ≤ 10; decide,
  fun S p vs t ⟨v, r, e, h1, w, r', e', h2, u, r'', e'', h3, z, r3, e3, h4, e4⟩ h => ⟨p, v, w, u, z, rfl, by rw [h, e, e', e'', e3, show r3 = [] from e4], h1, h2, h3, h4⟩⟩
/-- displays of one kind -/
def aL (A : Rep α) : ARep (List α) := ⟨fun S vs l => All2 A S vs l, fun s h => h.mono s⟩
theorem gl_nil : GA X m d [] Γ (aL A) (fun l => l = []) d := ga_of pa_nil fun σ W g eo Q q => q [] [] W rfl (Le.refl g) trivial
theorem gl_consF {es : List Expr} {x : α} {l : List α} (h : GE X m d e Γ A (fun z => z = x) d1) (k : GA X m d1 es Γ (aL A) (fun z => z = l) d2) (hst : starEach (e :: es) X.env = (false, eval e X.env) :: starEach es X.env := by rfl) : GA X m d (e :: es) Γ (aL A) (fun z => z = x :: l) d2 :=
  ga_of (pa_cons pe_w pa_w hst) fun σ W g eo Q q => h σ W g eo _ fun v x W1 p1 l1 r1 => k σ W1 l1.good (eo.mono l1) _ fun vs t W2 p2 l2 r2 =>
    q (v :: vs) (x :: t) W2 (by rw [p1, p2]) (l1.trans l2) ⟨A.mono l2.ext r1, r2⟩
theorem gl_nilP {P : α → Prop} : GA X m d [] Γ (aL A) (fun l => l.length = 0 ∧ ∀ x ∈ l, P x) d := fun σ W g eo Q q => gl_nil (A := A) σ W g eo Q fun v a W' p l r => q v a W' (by rw [p]; exact ⟨rfl, fun _ h => nomatch h⟩) l r
theorem gl_consP {es : List Expr} {P1 P : α → Prop} {n : Nat} (h : GE X m d e Γ A P1 d1) (h1 : ∀ x, P1 x → P x) (k : GA X m d1 es Γ (aL A) (fun l => l.length = n ∧ ∀ x ∈ l, P x) d2) (hst : starEach (e :: es) X.env = (false, eval e X.env) :: starEach es X.env := by rfl) : GA X m d (e :: es) Γ (aL A) (fun l => l.length = n + 1 ∧ ∀ x ∈ l, P x) d2 :=
  ga_of (pa_cons pe_w pa_w hst) fun σ W g eo Q q => h σ W g eo _ fun v x W1 p1 l1 r1 => k σ W1 l1.good (eo.mono l1) _ fun vs t W2 p2 l2 r2 =>
    q (v :: vs) (x :: t) W2 ⟨by rw [List.length_cons, p2.1], fun y hy => by
      rcases List.mem_cons.mp hy with e | hy
      · rw [e]; exact h1 x p1
      · exact p2.2 y hy⟩ (l1.trans l2) ⟨A.mono l2.ext r1, r2⟩
theorem ge_lst {es : List Expr} {P : List α → Prop} (h : GA X m d es Γ (aL A) P d1) (hs : ∀ l, P l → l.length ≤ 100) : GE X m d (.List es pos) Γ (jL A) P d1 :=
  ge_of (pe_lst pa_w) fun σ W g eo Q q => h σ W g eo _ fun vs t W1 p1 l1 r1 => by
    have hz : vs.length ≤ sizeLine := Nat.le_trans (by rw [r1.len]; exact hs t p1) (by decide)
    refine ⟨hz, fun p np => ?_⟩
    have l2 := l1.good.lay (o := .lst vs) np
    exact q (.ref p) t _ p1 (l1.trans l2) ⟨p, vs, rfl, (by show upd W1.S p _ p = _; rw [upd_same]), hz, r1.mono l2.ext⟩
theorem ge_tupL {es : List Expr} {k : Nat} {P : List α → Prop} (h : GA X m d es Γ (aL A) P d1) (hs : ∀ l, P l → l.length ≤ 100) : GE X m d (.Tuple es k pos) Γ (jT A) P d1 :=
  ge_of (pe_tup pa_w) fun σ W g eo Q q => h σ W g eo _ fun vs t W1 p1 l1 r1 => by
    have hz : vs.length ≤ sizeLine := Nat.le_trans (by rw [r1.len]; exact hs t p1) (by decide)
    refine ⟨hz, fun p np => ?_⟩
    have l2 := l1.good.lay (o := .tup vs) np
    exact q (.ref p) t _ p1 (l1.trans l2) ⟨p, vs, rfl, (by show upd W1.S p _ p = _; rw [upd_same]), hz, r1.mono l2.ext⟩

/-! ### operators on values -/
theorem ov_I0 {g : Int → Int → V} {f : Int → Int → γ} (h : ∀ H i j, C.r H (g i j) (f i j)) : OpV m (L2.rI0 g) jI jI C (fun _ _ => True) (fun a b c => c = f a b) := fun _ W x y i j g' rx ry _ Q q =>
  ⟨i, j, rx, ry, q _ _ W rfl (Le.refl g') (h _ i j)⟩
theorem ov_I {c : Int → Int → Prop} {g : Int → Int → V} {f : Int → Int → γ} (h : ∀ H i j, C.r H (g i j) (f i j)) : OpV m (L2.rI c g) jI jI C c (fun a b c => c = f a b) := fun _ W x y i j g' rx ry hc Q q =>
  ⟨i, j, rx, ry, hc, q _ _ W rfl (Le.refl g') (h _ i j)⟩
theorem ov_II {g : Int → Int → Int} : OpV m (L2.rI0 fun i j => .int (g i j)) jI jI jI (fun _ _ => True) (fun a b c => c = g a b) := ov_I0 fun _ _ _ => rfl
theorem ov_IB {g : Int → Int → Bool} : OpV m (L2.rI0 fun i j => .bl (g i j)) jI jI jB (fun _ _ => True) (fun a b c => c = g a b) := ov_I0 fun _ _ _ => rfl
theorem ov_CI {c : Int → Int → Prop} {g : Int → Int → Int} : OpV m (L2.rI c fun i j => .int (g i j)) jI jI jI c (fun a b c => c = g a b) := ov_I fun _ _ _ => rfl
theorem ov_eqI : OpV m rEq jI jI jB (fun _ _ => True) (fun a b c => c = decide (a = b)) := fun _ W x y i j g rx ry _ Q q => by
  rw [show x = V.int i from rx, show y = V.int j from ry]
  exact ⟨rfl, q _ _ W rfl (Le.refl g) (by show V.bl _ = V.bl _; congr 1; by_cases h : i = j <;> simp [h])⟩
theorem ov_neI : OpV m rNe jI jI jB (fun _ _ => True) (fun a b c => c = !decide (a = b)) := fun _ W x y i j g rx ry _ Q q => by
  rw [show x = V.int i from rx, show y = V.int j from ry]
  exact ⟨rfl, q _ _ W rfl (Le.refl g) (by show V.bl _ = V.bl _; congr 1; by_cases h : i = j <;> simp [h])⟩
theorem ov_eqS : OpV m rEq jS jS jB (fun _ _ => True) (fun a b c => c = decide (a = b)) := fun _ W x y i j g rx ry _ Q q => by
  rw [show x = V.str i from rx, show y = V.str j from ry]
  exact ⟨rfl, q _ _ W rfl (Le.refl g) (by show V.bl _ = V.bl _; congr 1; by_cases h : i = j <;> simp [h])⟩
theorem ov_neS : OpV m rNe jS jS jB (fun _ _ => True) (fun a b c => c = !decide (a = b)) := fun _ W x y i j g rx ry _ Q q => by
  rw [show x = V.str i from rx, show y = V.str j from ry]
  exact ⟨rfl, q _ _ W rfl (Le.refl g) (by show V.bl _ = V.bl _; congr 1; by_cases h : i = j <;> simp [h])⟩
theorem ov_eqB : OpV m rEq jB jB jB (fun _ _ => True) (fun a b c => c = decide (a = b)) := fun _ W x y i j g rx ry _ Q q => by
  rw [show x = V.bl i from rx, show y = V.bl j from ry]
  exact ⟨rfl, q _ _ W rfl (Le.refl g) (by show V.bl _ = V.bl _; congr 1; by_cases h : i = j <;> simp [h])⟩
theorem ov_isB : OpV m L2.rIsB jB jB jB (fun _ _ => True) (fun a b c => c = decide (a = b)) := fun _ W x y i j g rx ry _ Q q =>
  ⟨i, j, rx, ry, q _ _ W rfl (Le.refl g) rfl⟩
/-- is None -/
theorem ov_isN : OpV m (fun x y H Q => y = .non ∧ Q (.bl (decide (x = .non))) H) (jO A) jN jB (fun _ _ => True) (fun a _ c => c = a.isNone) := fun _ W x y o _ g rx ry _ Q q => by
  refine ⟨ry, ?_⟩
  rcases rx with ⟨e1, e2⟩ | ⟨a, e1, e2, _⟩
  · subst e1; rw [decide_eq_true e2]; exact q _ true W rfl (Le.refl g) rfl
  · subst e1; rw [decide_eq_false e2]; exact q _ false W rfl (Le.refl g) rfl
theorem ov_notN : OpV m (fun x y H Q => y = .non ∧ Q (.bl (!decide (x = .non))) H) (jO A) jN jB (fun _ _ => True) (fun a _ c => c = a.isSome) := fun _ W x y o _ g rx ry _ Q q => by
  refine ⟨ry, ?_⟩
  rcases rx with ⟨e1, e2⟩ | ⟨a, e1, e2, _⟩
  · subst e1; rw [decide_eq_true e2]; exact q _ false W rfl (Le.refl g) rfl
  · subst e1; rw [decide_eq_false e2]; exact q _ true W rfl (Le.refl g) rfl
/-- the place of an index -/
theorem at2 {S : Hp} {xs : List V} {l : List α} {i : Int} {a : α} (h : All2 A S xs l) (e : atI l i = some a) : ∃ v, atI xs i = some v ∧ A.r S v a := by
  unfold atI at e ⊢
  rw [h.len]
  cases q : ixN l.length i with
  | none => rw [q] at e; cases e
  | some j =>
    rw [q] at e
    exact h.get e
theorem ov_ixL {K : PySem.W.Frag} : OpV m (rIxL K) (jL A) jI A (fun l i => ∃ a, atI l i = some a) (fun l i a => atI l i = some a) := fun _ W x y l i g rx ry ⟨a, ha⟩ Q q => by
  obtain ⟨p, xs, e, h, z, h2⟩ := rx
  obtain ⟨v, hv, r⟩ := at2 h2 ha
  exact ⟨p, xs, i, v, e, ry, SqL.of (g.sub _ _ h), hv, q v a W ha (Le.refl g) r⟩
theorem ov_ixT {K : PySem.W.Frag} : OpV m (rIxT K) (jT A) jI A (fun l i => ∃ a, atI l i = some a) (fun l i a => atI l i = some a) := fun _ W x y l i g rx ry ⟨a, ha⟩ Q q => by
  obtain ⟨p, xs, e, h, z, h2⟩ := rx
  obtain ⟨v, hv, r⟩ := at2 h2 ha
  exact ⟨p, xs, i, v, e, ry, SqT.of (g.sub _ _ h), hv, q v a W ha (Le.refl g) r⟩
/-- a written place of a tuple -/
def PrV (A : Rep α) (B : Rep β) (i : Int) (f : α → β) : Prop := ∀ S v a, A.r S v a → ∃ p xs w, v = .ref p ∧ S p = some (.tup xs) ∧ atI xs i = some w ∧ B.r S w (f a)
theorem ov_pr {K : PySem.W.Frag} {f : α → β} {i : Int} (h : PrV A B i f) : OpV m (rIxT K) A jI B (fun _ j => j = i) (fun a _ c => c = f a) := fun _ W x y a j g rx ry hj Q q => by
  obtain ⟨p, xs, w, e, h1, h2, h3⟩ := h _ _ _ rx
  subst hj
  exact ⟨p, xs, j, w, e, ry, SqT.of (g.sub _ _ h1), h2, q w _ W rfl (Le.refl g) h3⟩
theorem pr2_0 : PrV (jT2 A B) A 0 (·.1) := fun S v a ⟨p, x, y, e, h, r1, r2⟩ => ⟨p, _, x, e, h, rfl, r1⟩
theorem pr2_1 : PrV (jT2 A B) B 1 (·.2) := fun S v a ⟨p, x, y, e, h, r1, r2⟩ => ⟨p, _, y, e, h, rfl, r2⟩
theorem pr3_0 : PrV (jT3 A B C) A 0 (·.1) := fun S v a ⟨p, x, y, z, e, h, r1, r2, r3⟩ => ⟨p, _, x, e, h, rfl, r1⟩
theorem pr3_1 : PrV (jT3 A B C) B 1 (·.2.1) := fun S v a ⟨p, x, y, z, e, h, r1, r2, r3⟩ => ⟨p, _, y, e, h, rfl, r2⟩
theorem pr3_2 : PrV (jT3 A B C) C 2 (·.2.2) := fun S v a ⟨p, x, y, z, e, h, r1, r2, r3⟩ => ⟨p, _, z, e, h, rfl, r3⟩
theorem pr4_0 {D : Rep δ} : PrV (jT4 A B C D) A 0 (·.1) := fun S v a ⟨p, x, y, z, u, e, h, r1, r2, r3, r4⟩ => ⟨p, _, x, e, h, rfl, r1⟩
theorem pr4_1 {D : Rep δ} : PrV (jT4 A B C D) B 1 (·.2.1) := fun S v a ⟨p, x, y, z, u, e, h, r1, r2, r3, r4⟩ => ⟨p, _, y, e, h, rfl, r2⟩
theorem pr4_2 {D : Rep δ} : PrV (jT4 A B C D) C 2 (·.2.2.1) := fun S v a ⟨p, x, y, z, u, e, h, r1, r2, r3, r4⟩ => ⟨p, _, z, e, h, rfl, r3⟩
theorem pr4_3 {D : Rep δ} : PrV (jT4 A B C D) D 3 (·.2.2.2) := fun S v a ⟨p, x, y, z, u, e, h, r1, r2, r3, r4⟩ => ⟨p, _, u, e, h, rfl, r4⟩
theorem ge_ix {r : R2} {S : α → β → Prop} {f : α → β → γ → Prop} {P1 : α → Prop} {P2 : β → Prop} (ho : IxR X r) (hv : OpV m r A B C S f) (ha : GE X m d a Γ A P1 d1) (hb : GE X m d1 b Γ B P2 d2) (hs : ∀ x y, P1 x → P2 y → S x y) (hp : PlainIx b := by intro _ _; rfl) :
    GE X m d (.Subscript a b pos) Γ C (fun z => ∃ x y, P1 x ∧ P2 y ∧ f x y z) d2 := ge_of (pe_ix ho pe_w pe_w hp) (ev_op2 hv ha hb hs)
/-- t[i], i written -/
theorem ge_pr {f : α → β} {i : Int} {x : α} {j : Nat} {q1 : Pos} (h : PrV A B i f) (ha : GE X m d a Γ A (fun z => z = x) d1) (hp : PlainIx (.Constant (.int i) j q1) := by intro _ _; rfl) : GE X m d (.Subscript a (.Constant (.int i) j q1) pos) Γ B (fun z => z = f x) d1 :=
  ge_of (pe_ix ix_tup pe_w pe_w hp) (ev_op2F (ov_pr h) ha ge_int rfl)
theorem ge_prP {f : α → β} {i : Int} {P : α → Prop} {j : Nat} {q1 : Pos} (h : PrV A B i f) (ha : GE X m d a Γ A P d1) (hp : PlainIx (.Constant (.int i) j q1) := by intro _ _; rfl) : GE X m d (.Subscript a (.Constant (.int i) j q1) pos) Γ B (fun z => ∃ x, P x ∧ z = f x) d1 :=
  (ge_of (pe_ix ix_tup pe_w pe_w hp) (ev_op2 (ov_pr h) ha ge_int fun _ _ _ e => e) : GE X m d _ Γ B _ d1).imp fun z ⟨x, y, p, _, e⟩ => ⟨x, p, e⟩
/-- xs[i] of a list -/
theorem ge_at {l : List α} {i : Int} {x : α} (ha : GE X m d a Γ (jL A) (fun z => z = l) d1) (hb : GE X m d1 b Γ jI (fun z => z = i) d2) (hx : atI l i = some x) (hp : PlainIx b := by intro _ _; rfl) : GE X m d (.Subscript a b pos) Γ A (fun z => z = x) d2 :=
  (ge_ix ix_list ov_ixL ha hb (fun _ _ e1 e2 => ⟨x, by rw [e1, e2]; exact hx⟩) hp).imp fun z ⟨l', i', e1, e2, e3⟩ => by rw [e1, e2, hx] at e3; exact (Option.some.inj e3).symm
theorem ge_atT {l : List α} {i : Int} {x : α} (ha : GE X m d a Γ (jT A) (fun z => z = l) d1) (hb : GE X m d1 b Γ jI (fun z => z = i) d2) (hx : atI l i = some x) (hp : PlainIx b := by intro _ _; rfl) : GE X m d (.Subscript a b pos) Γ A (fun z => z = x) d2 :=
  (ge_ix ix_tup ov_ixT ha hb (fun _ _ e1 e2 => ⟨x, by rw [e1, e2]; exact hx⟩) hp).imp fun z ⟨l', i', e1, e2, e3⟩ => by rw [e1, e2, hx] at e3; exact (Option.some.inj e3).symm
/-- .. of a list of one's own -/
theorem ge_atO {l : List α} {i : Int} {x : α} {p : Addr} (n : Nat) {y : Str} {py : Pos} (hb : GE X m d b Γ jI (fun z => z = i) d1) (hx : atI l i = some x) (hΓ : Γ[n]? = some (some (.own p (oL A) l)) := by rfl) (hN : X.N[n]? = some y := by rfl)
    (hv : Vis X.env.scope y := by first | exact Or.inl rfl | exact Or.inr (Or.inl rfl) | exact Or.inr (Or.inr rfl)) (hd : (y == ("__debug__" : Str)) = false := by decide) (hcd : (y == ("__classdict__" : Str)) = false := by decide) (hp : PlainIx b := by intro _ _; rfl) :
    GE X m d (.Subscript (.Name y py) b pos) Γ A (fun z => z = x) d1 := ge_of (pe_ix ix_list (pe_var hN hv hd hcd) pe_w hp) fun σ W g eo Q q => by
  obtain ⟨v, h1, h2, h3, h4, o, h5, xs, h6, hz, h7⟩ := eo.at_ n _ hΓ
  refine ⟨v, h1, hb σ W g eo _ fun u j W1 e1 l1 r1 => ?_⟩
  subst e1
  obtain ⟨w, hw, rw_⟩ := at2 h7 hx
  exact ⟨p, xs, j, w, h2, r1, SqL.of (by rw [l1.keep p o h4 h5, h6]), hw, q w x W1 rfl l1 (A.mono l1.ext rw_)⟩

/-! ### built-in functions -/
def CaV1 (m : Am) (r : List V → Hp → VK → Prop) (A : Rep α) (C : Rep γ) (S : α → Prop) (f : α → γ → Prop) : Prop :=
  ∀ d W x a, Good m d W → A.r W.S x a → S a → ∀ Q : VK, (∀ v c W', f a c → Le m d W W' → C.r W'.S v c → Q v W'.H) → r [x] W.H Q
def CaV2 (m : Am) (r : List V → Hp → VK → Prop) (A : Rep α) (B : Rep β) (C : Rep γ) (S : α → β → Prop) (f : α → β → γ → Prop) : Prop :=
  ∀ d W x y a b, Good m d W → A.r W.S x a → B.r W.S y b → S a b → ∀ Q : VK, (∀ v c W', f a b c → Le m d W W' → C.r W'.S v c → Q v W'.H) → r [x, y] W.H Q
theorem ev_c1 {r : List V → Hp → VK → Prop} {S : α → Prop} {f : α → γ → Prop} {P1 : α → Prop} (hv : CaV1 m r A C S f) (ha : GE X m d e Γ A P1 d1) (hs : ∀ x, P1 x → S x) : Ev m d (tCB r (tCons (wE X e) tNil)) Γ C (fun z => ∃ x, P1 x ∧ f x z) d1 := fun σ W g eo Q q =>
  ha σ W g eo _ fun v x W1 p1 l1 r1 => hv _ W1 v x l1.good r1 (hs x p1) Q fun z c W2 p2 l2 r2 => q z c W2 ⟨x, p1, p2⟩ (l1.trans l2) r2
theorem ev_c2 {r : List V → Hp → VK → Prop} {S : α → β → Prop} {f : α → β → γ → Prop} {P1 : α → Prop} {P2 : β → Prop} (hv : CaV2 m r A B C S f) (ha : GE X m d a Γ A P1 d1) (hb : GE X m d1 b Γ B P2 d2) (hs : ∀ x y, P1 x → P2 y → S x y) :
    Ev m d (tCB r (tCons (wE X a) (tCons (wE X b) tNil))) Γ C (fun z => ∃ x y, P1 x ∧ P2 y ∧ f x y z) d2 := fun σ W g eo Q q =>
  ha σ W g eo _ fun v x W1 p1 l1 r1 => hb σ W1 l1.good (eo.mono l1) _ fun u y W2 p2 l2 r2 => hv _ W2 v u x y l2.good (A.mono l2.ext r1) r2 (hs x y p1 p2) Q fun z c W3 p3 l3 r3 => q z c W3 ⟨x, y, p1, p2, p3⟩ ((l1.trans l2).trans l3) r3
theorem ge_b1 {x id : Str} {id' : String} {q1 : Pos} {r : List V → Hp → VK → Prop} {S : α → Prop} {f : α → γ → Prop} {P1 : α → Prop} (hc : CallR X (.builtin id') r) (hv : CaV1 m r A C S f) (hm : X.mg x = none) (ha : GE X m d e Γ A P1 d1) (hs : ∀ x, P1 x → S x)
    (hg : Gl X x := by rfl) (hb : bootBuiltins x = some (.builtin id') := by decide +kernel) (hn : x ≠ "__name__" := by decide) (hdb : (x == ("__debug__" : Str)) = false := by decide) (he : starEach [e] X.env = (false, eval e X.env) :: starEach [] X.env := by rfl) :
    GE X m d (.Call (.Name x q1) [e] [] pos) Γ C (fun z => ∃ x, P1 x ∧ f x z) d1 := ge_of (pe_callB hc hg hm hb (pa_cons pe_w pa_nil he) hn hdb he) (ev_c1 hv ha hs)
theorem ge_b2 {x : Str} {id' : String} {q1 : Pos} {r : List V → Hp → VK → Prop} {S : α → β → Prop} {f : α → β → γ → Prop} {P1 : α → Prop} {P2 : β → Prop} (hc : CallR X (.builtin id') r) (hv : CaV2 m r A B C S f) (hm : X.mg x = none) (ha : GE X m d a Γ A P1 d1) (hb' : GE X m d1 b Γ B P2 d2) (hs : ∀ x y, P1 x → P2 y → S x y)
    (hg : Gl X x := by rfl) (hb : bootBuiltins x = some (.builtin id') := by decide +kernel) (hn : x ≠ "__name__" := by decide) (hdb : (x == ("__debug__" : Str)) = false := by decide) (he : starEach [a, b] X.env = (false, eval a X.env) :: starEach [b] X.env := by rfl)
    (hpl : (backTo pos (starEach [b] X.env)).any (·.1) = false := by rfl) (hst2 : starEach [b] X.env = (false, eval b X.env) :: starEach [] X.env := by rfl) :
    GE X m d (.Call (.Name x q1) [a, b] [] pos) Γ C (fun z => ∃ x y, P1 x ∧ P2 y ∧ f x y z) d2 := ge_of (pe_callB hc hg hm hb (pa_cons pe_w (pa_cons pe_w pa_nil hst2) he) hn hdb he hpl) (ev_c2 hv ha hb' hs)
theorem ge_ty1 {x : Str} {id' : String} {q1 : Pos} {r : List V → Hp → VK → Prop} {S : α → Prop} {f : α → γ → Prop} {P1 : α → Prop} (hc : CallR X (.type id') r) (hv : CaV1 m r A C S f) (hm : X.mg x = none) (ha : GE X m d e Γ A P1 d1) (hs : ∀ x, P1 x → S x)
    (hg : Gl X x := by rfl) (hb : bootBuiltins x = some (.type id') := by decide +kernel) (hn : x ≠ "__name__" := by decide) (hdb : (x == ("__debug__" : Str)) = false := by decide) (he : starEach [e] X.env = (false, eval e X.env) :: starEach [] X.env := by rfl) :
    GE X m d (.Call (.Name x q1) [e] [] pos) Γ C (fun z => ∃ x, P1 x ∧ f x z) d1 := ge_of (pe_callTy hc hg hm hb (pa_cons pe_w pa_nil he) hn hdb he) (ev_c1 hv ha hs)
theorem cv_lenL {K : PySem.W.Frag} : CaV1 m (fun xs H Q => ∃ p ys, xs = [.ref p] ∧ (SqL K H p ys ∨ SqT K H p ys) ∧ Q (.int ys.length) H) (jL A) jI (fun _ => True) (fun l c => c = l.length) := fun _ W x l g ⟨p, xs, e, h, z, h2⟩ _ Q q =>
  ⟨p, xs, by rw [e], .inl (SqL.of (g.sub _ _ h)), q _ _ W (by rw [h2.len]) (Le.refl g) rfl⟩
theorem cv_lenT {K : PySem.W.Frag} : CaV1 m (fun xs H Q => ∃ p ys, xs = [.ref p] ∧ (SqL K H p ys ∨ SqT K H p ys) ∧ Q (.int ys.length) H) (jT A) jI (fun _ => True) (fun l c => c = l.length) := fun _ W x l g ⟨p, xs, e, h, z, h2⟩ _ Q q =>
  ⟨p, xs, by rw [e], .inr (SqT.of (g.sub _ _ h)), q _ _ W (by rw [h2.len]) (Le.refl g) rfl⟩
theorem cv_max : CaV2 m (fun xs H Q => ∃ i j : Int, xs = [.int i, .int j] ∧ Q (.int (if j > i then j else i)) H) jI jI jI (fun _ _ => True) (fun a b c => c = max a b) := fun _ W x y i j g rx ry _ Q q =>
  ⟨i, j, by rw [show x = V.int i from rx, show y = V.int j from ry], q _ (max i j) W rfl (Le.refl g) (by show V.int _ = V.int _; congr 1; split <;> omega)⟩
theorem cv_min : CaV2 m (fun xs H Q => ∃ i j : Int, xs = [.int i, .int j] ∧ Q (.int (if j < i then j else i)) H) jI jI jI (fun _ _ => True) (fun a b c => c = min a b) := fun _ W x y i j g rx ry _ Q q =>
  ⟨i, j, by rw [show x = V.int i from rx, show y = V.int j from ry], q _ (min i j) W rfl (Le.refl g) (by show V.int _ = V.int _; congr 1; split <;> omega)⟩
theorem cv_int : CaV1 m (fun xs H Q => (∃ i : Int, xs = [.int i] ∧ Q (.int i) H) ∨ ∃ k : Bool, xs = [.bl k] ∧ Q (.int (if k then 1 else 0)) H) jI jI (fun _ => True) (fun a c => c = a) := fun _ W x i g rx _ Q q =>
  .inl ⟨i, by rw [show x = V.int i from rx], q _ i W rfl (Le.refl g) rfl⟩
theorem cv_sum {K : PySem.W.Frag} : CaV1 m (rSum K) (jL jI) jI (fun _ => True) (fun l c => c = l.sum) := fun _ W x l g ⟨p, xs, e, h, z, h2⟩ _ Q q =>
  ⟨p, l, by rw [e], by rw [← h2.ints]; exact SqL.of (g.sub _ _ h), q _ _ W rfl (Le.refl g) rfl⟩
theorem cv_all {K : PySem.W.Frag} : CaV1 m (rAll K) (jL jB) jB (fun _ => True) (fun l c => c = l.all id) := fun _ W x l g ⟨p, xs, e, h, z, h2⟩ _ Q q =>
  ⟨p, l, by rw [e], by rw [← h2.bools]; exact SqL.of (g.sub _ _ h), q _ _ W rfl (Le.refl g) rfl⟩
theorem cv_list {K : PySem.W.Frag} : CaV1 m (fun xs H Q => ∃ p ys, xs = [.ref p] ∧ (SqL K H p ys ∨ SqT K H p ys) ∧ ∀ l, H l = none → Q (.ref l) (upd H l (.lst ys))) (jL A) (jL A) (fun _ => True) (fun l c => c = l) := fun _ W x l g ⟨p, xs, e, h, z, h2⟩ _ Q q =>
  ⟨p, xs, by rw [e], .inl (SqL.of (g.sub _ _ h)), fun p' np => by
    have l2 := g.lay (o := .lst xs) np
    exact q (.ref p') l _ rfl l2 ⟨p', xs, rfl, (by show upd W.S p' _ p' = _; rw [upd_same]), z, h2.mono l2.ext⟩⟩
theorem cv_tuple {K : PySem.W.Frag} : CaV1 m (fun xs H Q => ∃ p ys, xs = [.ref p] ∧ ((SqL K H p ys ∧ ∀ l, H l = none → Q (.ref l) (upd H l (.tup ys))) ∨ (SqT K H p ys ∧ Q (.ref p) H))) (jL A) (jT A) (fun _ => True) (fun l c => c = l) := fun _ W x l g ⟨p, xs, e, h, z, h2⟩ _ Q q =>
  ⟨p, xs, by rw [e], .inl ⟨SqL.of (g.sub _ _ h), fun p' np => by
    have l2 := g.lay (o := .tup xs) np
    exact q (.ref p') l _ rfl l2 ⟨p', xs, rfl, (by show upd W.S p' _ p' = _; rw [upd_same]), z, h2.mono l2.ext⟩⟩⟩

/-! ### defs of one's own -/
structure Ctr (τ α : Type) where
  ra : ARep τ
  pre : τ → Prop
  R : Rep α
  post : τ → α → Prop
/-- a def that changes nothing -/
def spP (c : Ctr τ α) : Sp := fun vs H Q _ => ∃ (S : Hp) (t : τ), (∀ a o, S a = some o → H a = some o) ∧ c.ra.r S vs t ∧ c.pre t ∧ ∀ v a S' H', c.post t a → Le Am.no 0 ⟨S, H⟩ ⟨S', H'⟩ → c.R.r S' v a → Q v H'
theorem Le.lift {m : Am} {d d0 : Nat} {W W' : Wd} (l : Le Am.no d0 W W') (g : Good m d W) : Le m d W W' :=
  ⟨fun a o _ h => l.keep a o (fun f => f) h, l.ext, l.new, ⟨l.good.sub, m.stab (fun a o _ h => l.keep a o (fun f => f) h) g.amb, fun a f => by
    obtain ⟨o, h⟩ := m.dom g.amb f
    exact l.new a o h (g.out a f)⟩⟩
structure FnAt (P : Program) (w : World) (K : PySem.W.Frag) (mg : Str → Option Value) (base : Heap) (CX : CXT) (k : Nat) (x : Str) (ps : List Str) (sp : Sp) : Prop where
  ex : ∃ (f : Addr) (fd : FuncData), mg x = some (.ref f) ∧ PySem.W.keepIn K (.ref f) = true ∧ Binds K fd ps [] ∧ FnOk P w K mg base CX k f fd ps sp
theorem ge_fn {c : Ctr τ α} {x : Str} {q1 : Pos} {es : List Expr} {k : Nat} {ps : List Str} {P : τ → Prop} {CX : CXT} {E : XK} (F : FnAt X.prog X.w X.K X.mg X.base CX k x ps (spP c)) (hr : Room k X.A) (hx : Passes CX X E) (ha : GA X m d (e :: es) Γ c.ra P d1) (hp : ∀ t, P t → c.pre t)
    (hg : Gl X x := by rfl) (hdb : (x == ("__debug__" : Str)) = false := by decide) (he : starEach (e :: es) X.env = (false, eval e X.env) :: starEach es X.env := by rfl) (hpl : (backTo pos (starEach es X.env)).any (·.1) = false := by rfl) :
    GE X m d (.Call (.Name x q1) (e :: es) [] pos) Γ c.R (fun a => ∃ t, P t ∧ c.post t a) d1 := by
  obtain ⟨f, fd, hm, hk, hb, F⟩ := F.ex
  exact ge_of (pe_call F hr hg hm hk hb .nil hx pa_w hdb he hpl) fun σ W g eo Q q => ha σ W g eo _ fun vs t W1 p1 l1 r1 =>
    ⟨W1.S, t, l1.good.sub, by rw [List.append_nil]; exact r1, hp t p1, fun v a S' H' pa l ra => q v a ⟨S', H'⟩ ⟨t, p1, pa⟩ (l1.trans (l.lift l1.good)) ra⟩
end
end Gm

set_option Elab.async false
set_option linter.all false
set_option maxRecDepth 100000
namespace Gm
open PySem L2
/-! ### statements -/
structure Kn (α : Type) where
  nx : Nat → Env → Prop
  A : Rep α
  P : α → Prop
  rd : Nat
  bk : Nat → Env → Prop := fun _ _ => False
  ct : Nat → Env → Prop := fun _ _ => False
structure OwnNew (B : Wd) (Γ : Env) : Prop where
  new : ∀ (i : Nat) (β : Type) (p : Addr) (O : ORep β) (b : β), Γ[i]? = some (some (.own p O b)) → B.H p = none
  apart : ∀ (i j : Nat) (β γ : Type) (p q : Addr) (O : ORep β) (b : β) (O' : ORep γ) (b' : γ), Γ[i]? = some (some (.own p O b)) → Γ[j]? = some (some (.own q O' b')) → i ≠ j → p ≠ q
theorem OwnNew.weak {B : Wd} {Γ Γ' : Env} (h : OwnNew B Γ) (w : Wk Γ Γ') : OwnNew B Γ' :=
  ⟨fun i β p O b e => h.new i β p O b (w.get e), fun i j β γ p q O b O' b' e e' => h.apart i j β γ p q O b O' b' (w.get e) (w.get e')⟩
theorem set_own {Γ : Env} {g : Ent} {β : Type} {p : Addr} {O : ORep β} {b : β} {i j : Nat} (e : (Γ.set i (some g))[j]? = some (some (.own p O b))) : (j = i ∧ g = .own p O b) ∨ (j ≠ i ∧ Γ[j]? = some (some (.own p O b))) := by
  by_cases q : j = i
  · subst q
    have hj : j < Γ.length := by
      have := (List.getElem?_eq_some_iff.mp e).1
      simpa using this
    rw [List.getElem?_set_self hj] at e
    exact .inl ⟨rfl, Option.some.inj (Option.some.inj e)⟩
  · rw [List.getElem?_set_ne (Ne.symm q)] at e
    exact .inr ⟨q, e⟩
theorem OwnNew.setPv {B : Wd} {Γ : Env} {α : Type} {A : Rep α} {a : α} (i : Nat) (h : OwnNew B Γ) : OwnNew B (Γ.set i (some (.pv A a))) := by
  refine ⟨fun j β p O b e => ?_, fun j k β γ p q O b O' b' e e' n => ?_⟩
  · rcases set_own e with ⟨_, z⟩ | ⟨_, z⟩
    · cases z
    · exact h.new j β p O b z
  · rcases set_own e with ⟨_, z⟩ | ⟨_, z⟩
    · cases z
    · rcases set_own e' with ⟨_, z'⟩ | ⟨_, z'⟩
      · cases z'
      · exact h.apart j k β γ p q O b O' b' z z' n
theorem OwnNew.setOwn {B : Wd} {Γ : Env} {β' : Type} {p' : Addr} {O' : ORep β'} {b' : β'} (i : Nat) (h : OwnNew B Γ) (n : B.H p' = none)
    (ap : ∀ (j : Nat) (β : Type) (q : Addr) (O : ORep β) (b : β), j ≠ i → Γ[j]? = some (some (.own q O b)) → q ≠ p') : OwnNew B (Γ.set i (some (.own p' O' b'))) := by
  refine ⟨fun j β p O b e => ?_, fun j k β γ p q O b O2 b2 e e' ne => ?_⟩
  · rcases set_own e with ⟨_, z⟩ | ⟨_, z⟩
    · cases z; exact n
    · exact h.new j β p O b z
  · rcases set_own e with ⟨h1, z⟩ | ⟨h1, z⟩
    · cases z
      rcases set_own e' with ⟨h2, z'⟩ | ⟨h2, z'⟩
      · exact absurd (h1.trans h2.symm) ne
      · exact (ap k γ q O2 b2 h2 z').symm
    · rcases set_own e' with ⟨h2, z'⟩ | ⟨h2, z'⟩
      · cases z'
        exact ap j β p O b h1 z
      · exact h.apart j k β γ p q O b O2 b2 z z' ne
section
variable {α β γ δ τ : Type}
structure DK (m : Am) (B : Wd) (S0 : Hp) (K : Kn α) (D : Ends) : Prop where
  nx : ∀ d Γ σ W, K.nx d Γ → Le m d B W → Same S0 W.S → EnvOk m Γ σ W → OwnNew B Γ → D.nx σ W.H
  rt : ∀ v a W, K.P a → Le m K.rd B W → K.A.r W.S v a → D.rt v W.H
  bk : ∀ d Γ σ W, K.bk d Γ → Le m d B W → Same S0 W.S → EnvOk m Γ σ W → OwnNew B Γ → D.bk σ W.H
  ct : ∀ d Γ σ W, K.ct d Γ → Le m d B W → Same S0 W.S → EnvOk m Γ σ W → OwnNew B Γ → D.ct σ W.H
theorem DK.mono {m : Am} {B : Wd} {S S' : Hp} {K : Kn α} {D : Ends} (d : DK m B S K D) (s : Same S S') : DK m B S' K D :=
  ⟨fun n Γ σ W h l e => d.nx n Γ σ W h l (s.trans e), d.rt, fun n Γ σ W h l e => d.bk n Γ σ W h l (s.trans e), fun n Γ σ W h l e => d.ct n Γ σ W h l (s.trans e)⟩
def GS (X : Cx) (m : Am) (d : Nat) (B : Wd) (sts : List Stmt) (Γ : Env) (K : Kn α) : Prop :=
  OwnNew B Γ → ∀ σ W, Le m d B W → EnvOk m Γ σ W → ∀ D, DK m B W.S K D → wS X sts D σ W.H
end
section
variable {α β γ δ τ : Type} {X : Cx} {m : Am} {d d1 d2 d3 : Nat} {B : Wd} {Γ Γ' : Env} {e a b : Expr} {A : Rep α} {C : Rep γ} {P P' : γ → Prop} {pos p' : Pos} {K : Kn α} {rest body els sts : List Stmt} {st : Stmt}
theorem gs_of {t : TS} (h : PSs X sts t) (k : OwnNew B Γ → ∀ σ W, Le m d B W → EnvOk m Γ σ W → ∀ D, DK m B W.S K D → t D σ W.H) : GS X m d B sts Γ K := fun on σ W l eo D dk pins s I => h.run pins s σ W.H D I (k on σ W l eo D dk)
theorem gs_nil (h : K.nx d Γ) : GS X m d B [] Γ K := gs_of pss_nil fun on σ W l eo D dk => dk.nx d Γ σ W h l (fun _ _ h => h) eo on
theorem gs_weak (w : Wk Γ Γ') (h : GS X m d B sts Γ' K) : GS X m d B sts Γ K := fun on σ W l eo D dk => h (on.weak w) σ W l (eo.weak w) D dk
theorem gs_end (w : Wk Γ Γ') (h : K.nx d Γ') : GS X m d B [] Γ K := gs_weak w (gs_nil h)
/-- x = e -/
theorem gs_set (i : Nat) {x : Str} (hN : X.N.Nodup) (he : GE X m d e Γ C P d1) (k : ∀ a, P a → GS X m d1 B rest (Γ.set i (some (.pv C a))) K) (hi : X.N[i]? = some x := by rfl) (hx : Loc X.env.scope x := by first | exact Or.inl rfl | exact Or.inr rfl)
    (hs : swapsWith e (some (.Name x p')) pos.line X.env = pure false := by rfl) (hf : X.fn x = true ∨ X.env.scope.names.lookup x = some .local := by first | exact .inl rfl | exact .inr rfl) : GS X m d B (.Assign [.Name x p'] e pos :: rest) Γ K :=
  gs_of (pss_cons (ps_set hN hi hx pe_w hs hf) pss_w) fun on σ W l eo D dk => he σ W l.good eo _ fun v a W1 p1 l1 r1 =>
    k a p1 (on.setPv i) _ W1 (l.trans l1) ((eo.mono l1).set i r1) D (dk.mono l1.ext)
/-- return e -/
theorem gs_ret {e : Expr} {P : α → Prop} {nx bk ct : Nat → Env → Prop} {rd : Nat} {P' : α → Prop} (he : GE X m d e Γ A P d1) (h : ∀ a, P a → P' a) (hd : d1 ≤ rd := by first | exact Nat.le_refl _ | omega) : GS X m d B (.Return (some e) pos :: rest) Γ ⟨nx, A, P', rd, bk, ct⟩ :=
  gs_of (pss_cons (ps_ret pe_w) pss_w) fun on σ W l eo D dk => he σ W l.good eo _ fun v a W1 p1 l1 r1 => dk.rt v a W1 (h a p1) ((l.trans l1).up hd) r1
theorem gs_retF {e : Expr} {x : α} {nx bk ct : Nat → Env → Prop} {rd : Nat} {P' : α → Prop} (he : GE X m d e Γ A (fun z => z = x) d1) (h : P' x) (hd : d1 ≤ rd := by first | exact Nat.le_refl _ | omega) : GS X m d B (.Return (some e) pos :: rest) Γ ⟨nx, A, P', rd, bk, ct⟩ := gs_ret he (fun a e => e ▸ h) hd
/-- if: what comes behind, from each of its ends -/
theorem gs_if {c : Expr} {P : Bool → Prop} {nx bk ct : Nat → Env → Prop} {rd : Nat} {P' : α → Prop} (hc : GT X m d c Γ P d1) (h1 : P true → GS X m d1 B body Γ ⟨fun n Γ' => GS X m n B rest Γ' ⟨nx, A, P', rd, bk, ct⟩, A, P', rd, bk, ct⟩) (h2 : P false → GS X m d1 B els Γ ⟨fun n Γ' => GS X m n B rest Γ' ⟨nx, A, P', rd, bk, ct⟩, A, P', rd, bk, ct⟩) :
    GS X m d B (.If c body els pos :: rest) Γ ⟨nx, A, P', rd, bk, ct⟩ :=
  gs_of (pss_cons (ps_if pt_w pss_w pss_w) pss_w) fun on σ W l eo D dk => hc σ W l.good eo _ fun b W1 p1 l1 => by
    have dk' : DK m B W1.S (⟨fun n Γ' => GS X m n B rest Γ' ⟨nx, A, P', rd, bk, ct⟩, A, P', rd, bk, ct⟩ : Kn α) { D with nx := wS X rest D } :=
      ⟨fun n Γ' σ' W' h l' s eo' on' => h on' σ' W' l' eo' D (dk.mono (l1.ext.trans s)), dk.rt, (dk.mono l1.ext).bk, (dk.mono l1.ext).ct⟩
    cases b with
    | true => exact iteT (h1 p1 on σ W1 (l.trans l1) (eo.mono l1) _ dk')
    | false => exact iteF (h2 p1 on σ W1 (l.trans l1) (eo.mono l1) _ dk')
/-- if, with what holds behind it -/
theorem gs_ifJ {c : Expr} {P : Bool → Prop} {nx bk ct : Nat → Env → Prop} {rd : Nat} {P' : α → Prop} (J : Nat → Env → Prop) (hc : GT X m d c Γ P d1) (h1 : P true → GS X m d1 B body Γ ⟨J, A, P', rd, bk, ct⟩) (h2 : P false → GS X m d1 B els Γ ⟨J, A, P', rd, bk, ct⟩)
    (h3 : ∀ n Γ', J n Γ' → GS X m n B rest Γ' ⟨nx, A, P', rd, bk, ct⟩) : GS X m d B (.If c body els pos :: rest) Γ ⟨nx, A, P', rd, bk, ct⟩ :=
  gs_of (pss_cons (ps_if pt_w pss_w pss_w) pss_w) fun on σ W l eo D dk => hc σ W l.good eo _ fun b W1 p1 l1 => by
    have dk' : DK m B W1.S (⟨J, A, P', rd, bk, ct⟩ : Kn α) { D with nx := wS X rest D } := ⟨fun n Γ' σ' W' h l' s eo' on' => h3 n Γ' h on' σ' W' l' eo' D (dk.mono (l1.ext.trans s)), dk.rt, (dk.mono l1.ext).bk, (dk.mono l1.ext).ct⟩
    cases b with
    | true => exact iteT (h1 p1 on σ W1 (l.trans l1) (eo.mono l1) _ dk')
    | false => exact iteF (h2 p1 on σ W1 (l.trans l1) (eo.mono l1) _ dk')
/-- an if that is never true -/
theorem gs_skip {c : Expr} {x : Bool} {nx bk ct : Nat → Env → Prop} {rd : Nat} {P' : α → Prop} (hc : GT X m d c Γ (fun z => z = x) d1) (hx : x = false) (h : GS X m d1 B rest Γ ⟨nx, A, P', rd, bk, ct⟩) : GS X m d B (.If c body [] pos :: rest) Γ ⟨nx, A, P', rd, bk, ct⟩ :=
  gs_if hc (fun e => by rw [hx] at e; cases e) fun _ => gs_nil h
theorem gs_break {nx bk ct : Nat → Env → Prop} {rd : Nat} {P' : α → Prop} (w : Wk Γ Γ') (h : bk d Γ') : GS X m d B (.Break pos :: rest) Γ ⟨nx, A, P', rd, bk, ct⟩ := gs_weak w (gs_of (pss_cons ps_break pss_w) fun on σ W l eo D dk => dk.bk d Γ' σ W h l (fun _ _ h => h) eo on)
theorem gs_cont {nx bk ct : Nat → Env → Prop} {rd : Nat} {P' : α → Prop} (w : Wk Γ Γ') (h : ct d Γ') : GS X m d B (.Continue pos :: rest) Γ ⟨nx, A, P', rd, bk, ct⟩ := gs_weak w (gs_of (pss_cons ps_continue pss_w) fun on σ W l eo D dk => dk.ct d Γ' σ W h l (fun _ _ h => h) eo on)
theorem gs_expr (he : GE X m d e Γ C P d1) (k : ∀ a, P a → GS X m d1 B rest Γ K) (hs : swapsWith e none pos.line X.env = pure false := by rfl) : GS X m d B (.Expr e pos :: rest) Γ K :=
  gs_of (pss_cons (ps_expr pe_w hs) pss_w) fun on σ W l eo D dk => he σ W l.good eo _ fun v a W1 p1 l1 r1 => k a p1 on σ W1 (l.trans l1) (eo.mono l1) D (dk.mono l1.ext)

/-! ### targets -/
theorem Sets.one {js : List Nat} {σ : L2.St} {i : Nat} {v : V} (h : i ∈ js) : Sets js σ (σ.set i (some v)) := .step .refl h
theorem gb_name (i : Nat) {x : Str} {γ : Type} {C : Rep γ} {z : γ} {js : List Nat} (hN : X.N.Nodup) (hi : X.N[i]? = some x := by rfl) (hx : Loc X.env.scope x := by first | exact Or.inl rfl | exact Or.inr rfl) (hj : i ∈ js := by decide)
    (hf : X.fn x = true ∨ X.env.scope.names.lookup x = some .local := by first | exact .inl rfl | exact .inr rfl) : GB X m (.Name x pos) Γ C z (Γ.set i (some (.pv C z))) js := fun _ σ W v g eo r Q q pins s u I ru =>
  (pg_name hN hi hx hf).run pins s σ W.H v u Q I ru (q _ (eo.set i r) (.one hj))
/-- an own local stays own when another slot is set: EnvOk.set serves -/
structure GBs (X : Cx) (m : Am) (tgs : List Expr) (Γ : Env) (R : ARep τ) (t : τ) (Γ' : Env) (js : List Nat) : Prop where
  run : ∃ g : TGs, PGs X tgs g ∧ ∀ d σ W vs, Good m d W → EnvOk m Γ σ W → R.r W.S vs t → ∀ Q : L2.St → Hp → Prop, (∀ σ', EnvOk m Γ' σ' W → Sets js σ σ' → Q σ' W.H) → g vs σ W.H Q
theorem Sets.trans {js : List Nat} {σ σ' σ'' : L2.St} (a : Sets js σ σ') (b : Sets js σ' σ'') : Sets js σ σ'' := by
  induction b with
  | refl => exact a
  | step _ h ih => exact .step ih h
theorem gbs_nil {js : List Nat} : GBs X m [] Γ aN () Γ js := ⟨gNil, pgs_nil, fun _ σ W vs g eo r Q q => ⟨r, q σ eo .refl⟩⟩
theorem gbs_cons {tg : Expr} {tgs : List Expr} {γ : Type} {C : Rep γ} {z : γ} {R : ARep τ} {t : τ} {Γ'' : Env} {js : List Nat} (h : GB X m tg Γ C z Γ' js) (k : GBs X m tgs Γ' R t Γ'' js)
    (hs : (assignEach (tg :: tgs) X.env).map (·.2) = assign tg X.env :: (assignEach tgs X.env).map (·.2) := by rfl) : GBs X m (tg :: tgs) Γ (aC C R) (z, t) Γ'' js := by
  obtain ⟨g2, h2, k2⟩ := k.run
  refine ⟨gCons (wG X tg) g2, pgs_cons pg_w h2 hs, fun n σ W vs g eo r Q q => ?_⟩
  obtain ⟨v, r', e, r1, r2⟩ := r
  refine ⟨v, r', e, h n σ W v g eo r1 _ fun σ1 eo1 s1 => ?_⟩
  exact k2 n σ1 W r' g eo1 r2 Q fun σ2 eo2 s2 => q σ2 eo2 (s1.trans s2)
/-- a tuple taken apart -/
structure TupOut (C : Rep γ) (R : ARep τ) (f : γ → τ) (n : Nat) : Prop where
  out : ∀ S v z, C.r S v z → ∃ p xs, v = .ref p ∧ S p = some (.tup xs) ∧ xs.length = n ∧ R.r S xs (f z)
theorem to2 {α β : Type} {A : Rep α} {B : Rep β} : TupOut (jT2 A B) (aC A (aC B aN)) (fun t => (t.1, t.2, ())) 2 := ⟨fun S v z ⟨p, x, y, e, h, r1, r2⟩ => ⟨p, _, e, h, rfl, x, _, rfl, r1, y, _, rfl, r2, rfl⟩⟩
theorem to3 {α β γ : Type} {A : Rep α} {B : Rep β} {C : Rep γ} : TupOut (jT3 A B C) (aC A (aC B (aC C aN))) (fun t => (t.1, t.2.1, t.2.2, ())) 3 := ⟨fun S v z ⟨p, x, y, u, e, h, r1, r2, r3⟩ => ⟨p, _, e, h, rfl, x, _, rfl, r1, y, _, rfl, r2, u, _, rfl, r3, rfl⟩⟩
theorem to4 {α β γ δ : Type} {A : Rep α} {B : Rep β} {C : Rep γ} {D : Rep δ} : TupOut (jT4 A B C D) (aC A (aC B (aC C (aC D aN)))) (fun t => (t.1, t.2.1, t.2.2.1, t.2.2.2, ())) 4 := ⟨fun S v z ⟨p, x, y, u, w, e, h, r1, r2, r3, r4⟩ => ⟨p, _, e, h, rfl, x, _, rfl, r1, y, _, rfl, r2, u, _, rfl, r3, w, _, rfl, r4, rfl⟩⟩
theorem gb_tup {tgs : List Expr} {k n : Nat} {z : γ} {R : ARep τ} {f : γ → τ} {js : List Nat} (hc : X.calm = true) (T : TupOut C R f n) (h : GBs X m tgs Γ R (f z) Γ' js) (hn : (assignEach tgs X.env).length = n := by rfl)
    (hst : (assignEach tgs X.env).findIdx? (·.1) = none := by rfl) : GB X m (.Tuple tgs k pos) Γ C z Γ' js := by
  obtain ⟨g2, h2, k2⟩ := h.run
  intro n σ W v g eo r Q q pins s u I ru
  refine (pg_tup hc h2 hn hst).run pins s σ W.H v u Q I ru ?_
  obtain ⟨p, xs, e, hp, hl, r'⟩ := T.out _ _ _ r
  exact ⟨p, xs, e, SqT.of (g.sub _ _ hp), hl, k2 _ σ W xs g eo r' Q q⟩
/-- target = e (a target of any form) -/
theorem gs_asg {tg : Expr} {js : List Nat} {G : γ → Env} (hg : ∀ z, GB X m tg Γ C z (G z) js) (he : GE X m d e Γ C P d1) (k : ∀ z, P z → GS X m d1 B rest (G z) K) (hon : ∀ z, OwnNew B Γ → OwnNew B (G z)) (hs : swapsWithSole [tg] e pos.line X.env = pure false := by rfl)
    (hw : swappedStores [tg] e X.env = pure none := by rfl) (h1 : (assignEach [tg] X.env).map (·.2) = [assign tg X.env] := by rfl) : GS X m d B (.Assign [tg] e pos :: rest) Γ K :=
  gs_of (pss_cons (ps_asg pe_w pg_w hs hw h1) pss_w) fun on σ W l eo D dk => he σ W l.good eo _ fun v z W1 p1 l1 r1 => hg z _ σ W1 v l1.good (eo.mono l1) r1 _ fun σ' eo' _ => k z p1 (hon z on) σ' W1 (l.trans l1) eo' D (dk.mono l1.ext)

/-! ### loops -/
theorem src_list {K : PySem.W.Frag} {W : Wd} {p : Addr} {xs : List V} {l : List α} (h : W.S p = some (.lst xs)) (q : All2 A W.S xs l) : Src m (Itl K p) A l W := by
  refine ⟨_, _, q.len ▸ walk_list (K := K) (a := p) (xs := xs), fun _ W' s g => SqL.of (g.sub _ _ (s _ _ h)), fun n i W' x H' hi s g y => ?_⟩
  obtain ⟨e, hx⟩ := y
  obtain ⟨z, hz, r⟩ := q.getV hx
  subst e
  exact ⟨W'.S, z, Le.refl g, hz, A.mono s r⟩
theorem src_tup {K : PySem.W.Frag} {W : Wd} {p : Addr} {xs : List V} {l : List α} (h : W.S p = some (.tup xs)) (q : All2 A W.S xs l) : Src m (Itt K p) A l W := by
  refine ⟨_, _, q.len ▸ walk_tup (K := K) (a := p) (xs := xs), fun _ W' s g => SqT.of (g.sub _ _ (s _ _ h)), fun n i W' x H' hi s g y => ?_⟩
  obtain ⟨e, hx⟩ := y
  obtain ⟨z, hz, r⟩ := q.getV hx
  subst e
  exact ⟨W'.S, z, Le.refl g, hz, A.mono s r⟩
theorem gi_list {tg : Expr} {P : List α → Prop} (h : GE X m d e Γ (jL A) P d1) : GI X m d tg e Γ A (fun l => P l ∧ l.length ≤ sizeLine) d1 := gi_of (pi_list pe_w) fun σ W g eo R q =>
  h σ W g eo _ fun v l W1 p1 l1 ⟨p, xs, e, hp, hz, h2⟩ => ⟨p, e, ⟨xs, SqL.of (l1.good.sub _ _ hp)⟩, q _ W1 l ⟨p1, by rw [← h2.len]; exact hz⟩ l1 (src_list hp h2)⟩
theorem gi_tup {tg : Expr} {P : List α → Prop} (h : GE X m d e Γ (jT A) P d1) : GI X m d tg e Γ A (fun l => P l ∧ l.length ≤ sizeLine) d1 := gi_of (pi_tup pe_w) fun σ W g eo R q =>
  h σ W g eo _ fun v l W1 p1 l1 ⟨p, xs, e, hp, hz, h2⟩ => ⟨p, e, ⟨xs, SqT.of (l1.good.sub _ _ hp)⟩, q _ W1 l ⟨p1, by rw [← h2.len]; exact hz⟩ l1 (src_tup hp h2)⟩
def rng (lo : Int) (n : Nat) : List Int := (List.range n).map fun (i : Nat) => lo + (i : Int)
theorem rng_len {lo : Int} {n : Nat} : (rng lo n).length = n := by simp [rng]
theorem src_rng {W : Wd} {lo : Int} {n : Nat} : Src m (Itr lo n) jI (rng lo n) W := by
  refine ⟨fun _ => True, YFn fun i => .int (lo + i), rng_len ▸ walk_range (lo := lo) (n := n), fun _ _ _ _ => trivial, fun n i W' x H' hi s g y => ?_⟩
  obtain ⟨e, hx⟩ := y
  subst e
  rw [rng_len] at hi
  exact ⟨W'.S, lo + i, Le.refl g, by simp [rng, hi], hx⟩
theorem gi_range1 {tg : Expr} {P : Int → Prop} {q1 : Pos} (hm : X.mg "range" = none) (h : GE X m d a Γ jI P d1) (hb : ∀ n, P n → -(2 ^ 62) ≤ n ∧ n < 2 ^ 62) (hg : Gl X "range" := by rfl) (hst : starEach [a] X.env = (false, eval a X.env) :: starEach [] X.env := by rfl) (hs : starEach [a] X.env = [(false, eval a X.env)] := by rfl) :
    GI X m d tg (.Call (.Name "range" q1) [a] [] pos) Γ jI (fun l => ∃ n, P n ∧ l = rng 0 n.toNat) d1 := gi_of (pi_range1 hg hm (pa_cons pe_w pa_nil hst) hs) fun σ W g eo R q =>
  h σ W g eo _ fun v n W1 p1 l1 r1 => ⟨n, by rw [show v = V.int n from r1], (hb n p1).1, (hb n p1).2, q _ W1 _ ⟨n, p1, rfl⟩ l1 src_rng⟩
theorem gi_range2 {tg : Expr} {P1 P2 : Int → Prop} {q1 : Pos} (hm : X.mg "range" = none) (ha : GE X m d a Γ jI P1 d1) (hb' : GE X m d1 b Γ jI P2 d2) (hb : ∀ i j, P1 i → P2 j → -(2 ^ 62) ≤ i ∧ i < 2 ^ 62 ∧ -(2 ^ 62) ≤ j ∧ j < 2 ^ 62) (hg : Gl X "range" := by rfl)
    (hst : starEach [a, b] X.env = (false, eval a X.env) :: starEach [b] X.env := by rfl) (hst2 : starEach [b] X.env = (false, eval b X.env) :: starEach [] X.env := by rfl) (hs : starEach [a, b] X.env = [(false, eval a X.env), (false, eval b X.env)] := by rfl) (hs2 : starEach [b] X.env = [(false, eval b X.env)] := by rfl) :
    GI X m d tg (.Call (.Name "range" q1) [a, b] [] pos) Γ jI (fun l => ∃ i j, P1 i ∧ P2 j ∧ l = rng i (j - i).toNat) d2 := gi_of (pi_range2 hg hm (pa_cons pe_w (pa_cons pe_w pa_nil hst2) hst) hs hs2) fun σ W g eo R q =>
  ha σ W g eo _ fun v i W1 p1 l1 r1 => hb' σ W1 l1.good (eo.mono l1) _ fun u j W2 p2 l2 r2 => ⟨i, j, by rw [show v = V.int i from r1, show u = V.int j from r2], hb i j p1 p2, q _ W2 _ ⟨i, j, p1, p2, rfl⟩ (l1.trans l2) src_rng⟩
/-- for: Iv holds of what was walked and the loop's own state t; each turn draws at most c times -/
theorem gs_for {tg : Expr} {P : List γ → Prop} {js : List Nat} {nx bk ct : Nat → Env → Prop} {rd : Nat} {P' : α → Prop} (c : Nat) (hp : PassesOwn (model X.prog X.w) X.A X.env X.xe) (hc : X.calm = true) (hi : GI X m d tg e Γ C P d1)
    (main : ∀ l, P l → ∃ (τ : Type) (mk : τ → Env) (mk' : γ → τ → Env) (Iv : List γ → τ → Prop), (∃ t, Wk Γ (mk t) ∧ Iv [] t) ∧ (∀ x t, GB X m tg (mk t) C x (mk' x t) js) ∧ (∀ x t, OwnNew B (mk t) → OwnNew B (mk' x t)) ∧
      (∀ pre x post t, l = pre ++ x :: post → Iv pre t → GS X m (d1 + c * pre.length) B body (mk' x t) ⟨fun n Γ' => n ≤ d1 + c * pre.length + c ∧ ∃ t', Wk Γ' (mk t') ∧ Iv (pre ++ [x]) t', A, P', rd, fun n Γ' => GS X m n B rest Γ' ⟨nx, A, P', rd, bk, ct⟩, fun n Γ' => n ≤ d1 + c * pre.length + c ∧ ∃ t', Wk Γ' (mk t') ∧ Iv (pre ++ [x]) t'⟩) ∧
      (∀ t, Iv l t → GS X m (d1 + c * l.length) B rest (mk t) ⟨nx, A, P', rd, bk, ct⟩))
    (hs : ∀ x, foldedSetIterable e X.env x = pure x := by intro _; rfl) : GS X m d B (.For tg e body [] pos :: rest) Γ ⟨nx, A, P', rd, bk, ct⟩ := by
  refine gs_of (pss_cons (ps_for hp hc pi_w pg_w pss_w hs) pss_w) fun on σ W l eo D dk => hi σ W l.good eo _ fun J W1 xs pl l1 src => ?_
  obtain ⟨τ, mk, mk', Iv, ⟨t0, w0, i0⟩, hg, hon, hst, hd⟩ := main xs pl
  obtain ⟨G, Y, wk, hG, hY⟩ := src.ex
  refine for_it (D := { D with nx := wS X rest D }) wk (fun i σ' H' => ∃ t W', W'.H = H' ∧ Le m (d1 + c * (xs.take i).length) B W' ∧ Same W1.S W'.S ∧ EnvOk m (mk t) σ' W' ∧ OwnNew B (mk t) ∧ Iv (xs.take i) t) ?_ ?_ ?_ ?_
  · exact ⟨t0, W1, rfl, (l.trans l1).up (Nat.le_add_right _ _), fun _ _ h => h, (eo.mono l1).weak w0, on.weak w0, by simpa using i0⟩
  · rintro i σ' H' _ ⟨t, W', rfl, lB, s1, _⟩
    exact hG _ W' s1 lB.good
  · rintro i x σ' H' H'' hi ⟨t, W', rfl, lB, s1, eo', on', iv⟩ y
    obtain ⟨S', z, l2, hz, r⟩ := hY _ i W' x H'' hi s1 lB.good y
    refine hg z t _ σ' ⟨S', H''⟩ x l2.good (eo'.mono l2) r _ fun σ2 eo2 _ => ?_
    have hsplit : xs = xs.take i ++ z :: xs.drop (i + 1) := by
      obtain ⟨h1, h2⟩ := List.getElem?_eq_some_iff.mp hz
      rw [← h2, ← List.drop_eq_getElem_cons h1]
      exact (List.take_append_drop i xs).symm
    have htake : xs.take (i + 1) = xs.take i ++ [z] := by
      rw [List.take_succ, hz]; rfl
    have hcost : d1 + c * (xs.take i).length + c = d1 + c * (xs.take (i + 1)).length := by
      rw [htake, List.length_append, List.length_singleton, Nat.mul_add, Nat.mul_one, Nat.add_assoc]
    refine hst _ z _ t hsplit iv (hon z t on') σ2 ⟨S', H''⟩ (lB.trans l2) eo2 _ ⟨?_, dk.rt, fun n Γ' σ' W' h l' s3 eo' on' => h on' σ' W' l' eo' D (dk.mono (l1.ext.trans (s1.trans (l2.ext.trans s3)))), ?_⟩
    · rintro n Γ' σ3 W3 ⟨hn, t', w', iv'⟩ l3 s3 eo3 on3
      exact ⟨t', W3, rfl, hcost ▸ l3.up hn, s1.trans (l2.ext.trans s3), eo3.weak w', on3.weak w', by rw [htake]; exact iv'⟩
    · rintro n Γ' σ3 W3 ⟨hn, t', w', iv'⟩ l3 s3 eo3 on3
      exact ⟨t', W3, rfl, hcost ▸ l3.up hn, s1.trans (l2.ext.trans s3), eo3.weak w', on3.weak w', by rw [htake]; exact iv'⟩
  · rintro σ' H' ⟨t, W', rfl, lB, s1, eo', on', iv⟩
    rw [List.take_length] at lB iv
    exact hd t iv on' σ' W' lB eo' D (dk.mono (l1.ext.trans s1))
/-- while: Iv holds ahead of each test, μ falls -/
theorem gs_while {τ : Type} {c : Expr} {nx bk ct : Nat → Env → Prop} {rd : Nat} {P' : α → Prop} (mk : τ → Env) (Iv : τ → Prop) (μ : τ → Nat) (hp : PassesOwn (model X.prog X.w) X.A X.env X.xe) (h0 : ∃ t, Wk Γ (mk t) ∧ Iv t)
    (main : ∀ t, Iv t → ∃ P : Bool → Prop, GT X m d c (mk t) P d ∧ (P true → GS X m d B body (mk t) ⟨fun n Γ' => n ≤ d ∧ ∃ t', Wk Γ' (mk t') ∧ Iv t' ∧ μ t' < μ t, A, P', rd, fun n Γ' => GS X m n B rest Γ' ⟨nx, A, P', rd, bk, ct⟩, fun n Γ' => n ≤ d ∧ ∃ t', Wk Γ' (mk t') ∧ Iv t' ∧ μ t' < μ t⟩) ∧
      (P false → GS X m d B rest (mk t) ⟨nx, A, P', rd, bk, ct⟩)) : GS X m d B (.While c body [] pos :: rest) Γ ⟨nx, A, P', rd, bk, ct⟩ := by
  refine gs_of (pss_cons (ps_while hp pt_w pss_w) pss_w) fun on σ W l eo D dk => ?_
  obtain ⟨t0, w0, i0⟩ := h0
  refine ⟨fun n σ' H' => ∃ t W', W'.H = H' ∧ n = μ t ∧ Le m d B W' ∧ Same W.S W'.S ∧ EnvOk m (mk t) σ' W' ∧ OwnNew B (mk t) ∧ Iv t, ⟨_, t0, W, rfl, rfl, l, fun _ _ h => h, eo.weak w0, on.weak w0, i0⟩, ?_⟩
  rintro n σ' H' ⟨t, W', rfl, rfl, lB, s1, eo', on', iv⟩
  obtain ⟨P, hc, h1, h2⟩ := main t iv
  refine hc σ' W' lB.good eo' _ fun b W2 pb l2 => ?_
  cases b with
  | false => exact iteF (h2 pb on' σ' W2 (lB.trans l2) (eo'.mono l2) D (dk.mono (s1.trans l2.ext)))
  | true =>
    refine iteT ⟨fun σ3 H3 => ∃ t' W3, W3.H = H3 ∧ μ t' < μ t ∧ Le m d B W3 ∧ Same W.S W3.S ∧ EnvOk m (mk t') σ3 W3 ∧ OwnNew B (mk t') ∧ Iv t', ?_, ?_⟩
    · rintro σ3 H3 ⟨t', W3, e3, lt, r⟩
      exact ⟨_, lt, t', W3, e3, rfl, r⟩
    · refine h1 pb on' σ' W2 (lB.trans l2) (eo'.mono l2) _ ⟨?_, dk.rt, fun n Γ' σ' W' h l' s3 eo' on' => h on' σ' W' l' eo' D (dk.mono (s1.trans (l2.ext.trans s3))), ?_⟩
      · rintro n Γ' σ3 W3 ⟨hn, t', w', iv', lt⟩ l3 s3 eo3 on3
        exact ⟨t', W3, rfl, lt, l3.up hn, s1.trans (l2.ext.trans s3), eo3.weak w', on3.weak w', iv'⟩
      · rintro n Γ' σ3 W3 ⟨hn, t', w', iv', lt⟩ l3 s3 eo3 on3
        exact ⟨t', W3, rfl, lt, l3.up hn, s1.trans (l2.ext.trans s3), eo3.weak w', on3.weak w', iv'⟩
end
end Gm

set_option Elab.async false
set_option linter.all false
set_option maxRecDepth 100000
namespace Gm
open PySem L2
section
variable {α β γ δ τ : Type} {X : Cx} {m : Am} {d d1 d2 d3 : Nat} {B : Wd} {Γ Γ' : Env} {e a b : Expr} {A : Rep α} {C : Rep γ} {P P' : γ → Prop} {pos p' : Pos} {K : Kn α} {rest body els sts : List Stmt} {st : Stmt}

/-! ### lists of one's own -/
/-- x = [..] -/
theorem gs_own (i : Nat) {x : Str} {es : List Expr} {P : List γ → Prop} {lpos : Pos} (hN : X.N.Nodup) (h : GA X m d es Γ (aL C) P d1) (hs : ∀ l, P l → l.length ≤ 100)
    (k : ∀ p l, P l → GS X m d1 B rest (Γ.set i (some (.own p (oL C) l))) K) (hi : X.N[i]? = some x := by rfl) (hx : Loc X.env.scope x := by first | exact Or.inl rfl | exact Or.inr rfl)
    (hsw : swapsWith (.List es lpos) (some (.Name x p')) pos.line X.env = pure false := by rfl) (hf : X.fn x = true ∨ X.env.scope.names.lookup x = some .local := by first | exact .inl rfl | exact .inr rfl) : GS X m d B (.Assign [.Name x p'] (.List es lpos) pos :: rest) Γ K :=
  gs_of (pss_cons (ps_set hN hi hx (pe_lst pa_w) hsw hf) pss_w) fun on σ W l eo D dk => h σ W l.good eo _ fun vs t W1 p1 l1 r1 => by
    have hz : vs.length ≤ sizeLine := Nat.le_trans (by rw [r1.len]; exact hs t p1) (by decide)
    refine ⟨hz, fun p np => ?_⟩
    have l2 := l1.good.put (o := .lst vs) np
    have eo1 := eo.mono l1
    refine k p t p1 (on.setOwn i ((l.trans l1).fresh np) fun j β q O b _ hj => ?_) _ ⟨W1.S, upd W1.H p (.lst vs)⟩ ((l.trans l1).trans l2) ((eo1.mono l2).set i ⟨rfl, l1.good.fresh np, l1.good.nf np, _, upd_same, vs, rfl, hz, r1⟩) D (dk.mono l1.ext)
    obtain ⟨v, _, _, _, _, o, ho, _⟩ := eo1.at_ j _ hj
    exact ne_of_none ho np
/-- an object of one's own turns: the others stand -/
theorem EnvOk.turn {σ : L2.St} {W : Wd} {n : Nat} {p : Addr} {β' : Type} {O' : ORep β'} {b0 b1 : β'} {o : HO} (eo : EnvOk m Γ σ W) (on : OwnNew B Γ) (hΓ : Γ[n]? = some (some (.own p O' b0))) (h : O'.r W.S o b1) :
    EnvOk m (Γ.set n (some (.own p O' b1))) σ ⟨W.S, upd W.H p o⟩ := by
  refine ⟨by rw [List.length_set]; exact eo.len, fun j g hj => ?_⟩
  by_cases q : j = n
  · subst q
    rw [List.getElem?_set_self (List.getElem?_eq_some_iff.mp hΓ).1] at hj
    cases hj
    obtain ⟨v, h1, h2, h3, h4, _⟩ := eo.at_ j _ hΓ
    exact ⟨v, h1, h2, h3, h4, o, upd_same, h⟩
  · rw [List.getElem?_set_ne (Ne.symm q)] at hj
    obtain ⟨v, h1, h2⟩ := eo.at_ j g hj
    refine ⟨v, h1, ?_⟩
    cases g with
    | pv A a => exact h2
    | own q' O b =>
      obtain ⟨e1, e2, e3, o', e4, e5⟩ := h2
      have ne : q' ≠ p := on.apart j n _ _ q' p O b O' b0 hj hΓ q
      exact ⟨e1, e2, e3, o', by show upd W.H p o q' = _; rw [upd_ne ne]; exact e4, e5⟩
/-- x.append(e) -/
theorem gs_app (n : Nat) {y : Str} {py apos cpos : Pos} {l : List γ} {p : Addr} (he : GE X m d e Γ C P d1) (hz : l.length < sizeLine) (k : ∀ a, P a → GS X m d1 B rest (Γ.set n (some (.own p (oL C) (l ++ [a])))) K) (hΓ : Γ[n]? = some (some (.own p (oL C) l)) := by rfl)
    (hN : X.N[n]? = some y := by rfl) (hv : Vis X.env.scope y := by first | exact Or.inl rfl | exact Or.inr (Or.inl rfl) | exact Or.inr (Or.inr rfl)) (hd : (y == ("__debug__" : Str)) = false := by decide) (hcd : (y == ("__classdict__" : Str)) = false := by decide)
    (hst : starEach [e] X.env = (false, eval e X.env) :: starEach [] X.env := by rfl) (hb : attributeBase (.Name y py) "append" X.env (eval (.Name y py) X.env) = eval (.Name y py) X.env := by rfl)
    (hfew : ((backTo cpos (starEach [e] X.env)).all (fun x => !x.1) && (backToKw cpos (keywordEach [] X.env)).all (fun x => x.1.isSome) && decide ([e].length + ([] : List Keyword).length + (if ([] : List Keyword).isEmpty then 0 else 1) < 30)) = true := by rfl)
    (hline : (apos.endLine == cpos.line) = true := by rfl) (hplain : (backTo cpos (starEach [] X.env)).any (·.1) = false := by rfl)
    (hs : swapsWith (.Call (.Attribute (.Name y py) "append" apos) [e] [] cpos) none pos.line X.env = pure false := by rfl) : GS X m d B (.Expr (.Call (.Attribute (.Name y py) "append" apos) [e] [] cpos) pos :: rest) Γ K := by
  refine gs_of (pss_cons (ps_expr (pe_bm PySem.F.plainAttrs_list PySem.F.slot_list_append PySem.F.type_list_append mt_append (pe_var hN hv hd hcd) (pa_cons pe_w pa_nil hst) hb hfew hline hst hplain) hs) pss_w) fun on σ W l' eo D dk => ?_
  obtain ⟨v, h1, h2, h3, h4, o, h5, xs, h6, hxz, h7⟩ := eo.at_ n _ hΓ
  subst h2; subst h6
  refine ⟨_, h1, .inl ⟨rfl, xs, SqL.of h5⟩, he σ W l'.good eo _ fun u x W1 p1 l1 r1 => ?_⟩
  have h5' := l1.keep p _ h4 h5
  have hs1 := l1.new p _ h5 h3
  refine ⟨p, xs, u, rfl, rfl, h5', by rw [h7.len]; exact hz, ?_⟩
  have hb := on.new n _ p _ _ hΓ
  refine k x p1 (on.setOwn n hb fun j β q O b hj he => on.apart j n _ _ q p O b _ _ he hΓ hj) σ ⟨W1.S, upd W1.H p (.lst (xs ++ [u]))⟩ ((l'.trans l1).turn hb hs1 h4) ((eo.mono l1).turn on hΓ ⟨xs ++ [u], rfl, by rw [List.length_append, h7.len]; exact hz, (h7.mono l1.ext).app ⟨r1, trivial⟩⟩) D (dk.mono l1.ext)
/-- x comes to rest -/
theorem gs_rest (n : Nat) {l : List γ} {p : Addr} (k : GS X m d B sts (Γ.set n (some (.pv (jL C) l))) K) (hΓ : Γ[n]? = some (some (.own p (oL C) l)) := by rfl) : GS X m d B sts Γ K := fun on σ W l' eo D dk => by
  obtain ⟨v, h1, h2, h3, h4, o, h5, xs, h6, hxz, h7⟩ := eo.at_ n _ hΓ
  subst h2; subst h6
  have hb := on.new n _ p _ _ hΓ
  have sm : Same W.S (upd W.S p (.lst xs)) := Same.rest h3
  refine k (on.setPv n) σ ⟨upd W.S p (.lst xs), W.H⟩ (l'.rest hb h5 h3 h4) ⟨by rw [List.length_set]; exact eo.len, fun j g hj => ?_⟩ D (dk.mono sm)
  by_cases q : j = n
  · subst q
    rw [List.getElem?_set_self (List.getElem?_eq_some_iff.mp hΓ).1] at hj
    cases hj
    exact ⟨_, h1, p, xs, rfl, upd_same, hxz, h7.mono sm⟩
  · rw [List.getElem?_set_ne (Ne.symm q)] at hj
    obtain ⟨v, h1, h2⟩ := eo.at_ j g hj
    refine ⟨v, h1, ?_⟩
    cases g with
    | pv A a => exact A.mono sm h2
    | own q' O b =>
      obtain ⟨e1, e2, e3, o', e4, e5⟩ := h2
      have ne : q' ≠ p := on.apart j n _ _ q' p O b _ _ hj hΓ q
      exact ⟨e1, by show upd W.S p _ q' = _; rw [upd_ne ne]; exact e2, e3, o', e4, O.mono sm e5⟩

/-! ### comprehensions -/
inductive LcR (T : γ → Bool → Prop) (E : γ → δ → Prop) : List γ → List δ → Prop
  | nil : LcR T E [] []
  | skip {l : List γ} {ys : List δ} {x : γ} : LcR T E l ys → T x false → LcR T E (l ++ [x]) ys
  | keep {l : List γ} {ys : List δ} {x : γ} {y : δ} : LcR T E l ys → T x true → E x y → LcR T E (l ++ [x]) (ys ++ [y])
theorem LcR.len {T : γ → Bool → Prop} {E : γ → δ → Prop} {l : List γ} {ys : List δ} (h : LcR T E l ys) : ys.length ≤ l.length := by
  induction h with
  | nil => exact Nat.le_refl _
  | skip _ _ ih => rw [List.length_append]; omega
  | keep _ _ _ ih => rw [List.length_append, List.length_append]; simp; exact ih
theorem LcR.fn {p : γ → Bool} {f : γ → δ} {l : List γ} {ys : List δ} (h : LcR (fun x b => b = p x) (fun x y => y = f x) l ys) : ys = (l.filter p).map f := by
  induction h with
  | nil => rfl
  | skip _ h ih => rw [List.filter_append, List.map_append, ← ih]; simp [← h]
  | keep _ h e ih => rw [List.filter_append, List.map_append, ← ih, e]; simp [← h]
theorem LcR.map {f : γ → δ} {l : List γ} {ys : List δ} (h : LcR (fun _ b => b = true) (fun x y => y = f x) l ys) : ys = l.map f := by
  induction h with
  | nil => rfl
  | skip _ h ih => cases h
  | keep _ h e ih => rw [List.map_append, ← ih, e]; simp
theorem LcR.all {T : γ → Bool → Prop} {E : γ → δ → Prop} {l : List γ} {ys : List δ} (h : LcR T E l ys) : ∀ y ∈ ys, ∃ x ∈ l, T x true ∧ E x y := by
  induction h with
  | nil => intro y hy; cases hy
  | skip _ _ ih => exact fun y hy => let ⟨x, h1, h2⟩ := ih y hy; ⟨x, List.mem_append_left _ h1, h2⟩
  | keep _ h e ih =>
    intro y hy
    rcases List.mem_append.mp hy with hy | hy
    · obtain ⟨x, h1, h2⟩ := ih y hy; exact ⟨x, List.mem_append_left _ h1, h2⟩
    · rw [List.mem_singleton] at hy; subst hy; exact ⟨_, by simp, h, e⟩
theorem LcR.lenEq {T : γ → Bool → Prop} {E : γ → δ → Prop} {l : List γ} {ys : List δ} (h : LcR T E l ys) (ht : ∀ x, ¬ T x false) : ys.length = l.length := by
  induction h with
  | nil => rfl
  | skip _ h ih => exact absurd h (ht _)
  | keep _ _ _ ih => rw [List.length_append, List.length_append, ih]; rfl
def wipeE (Γ : Env) : List Nat → Env
  | [] => Γ
  | v :: vs => (wipeE Γ vs).set v none
theorem EnvOk.unset {σ : L2.St} {W : Wd} (i : Nat) (h : EnvOk m Γ σ W) : EnvOk m (Γ.set i none) (σ.set i none) W := by
  refine ⟨by simp [h.len], fun j e' x => ?_⟩
  by_cases q : j = i
  · subst q
    have hj : j < Γ.length := by
      have := (List.getElem?_eq_some_iff.mp x).1
      simpa using this
    rw [List.getElem?_set_self hj] at x
    cases x
  · rw [List.getElem?_set_ne (Ne.symm q)] at x
    obtain ⟨w, a, b⟩ := h.at_ j e' x
    exact ⟨w, by rw [List.getElem?_set_ne (Ne.symm q)]; exact a, b⟩
theorem EnvOk.wipe {σ : L2.St} {W : Wd} (h : EnvOk m Γ σ W) : ∀ vs : List Nat, EnvOk m (wipeE Γ vs) (L2.wipe σ vs) W
  | [] => h
  | v :: vs => (EnvOk.wipe h vs).unset v
theorem wipe_set {σ : L2.St} {i : Nat} {o : Option V} : ∀ {vs : List Nat}, i ∈ vs → L2.wipe (σ.set i o) vs = L2.wipe σ vs
  | v :: vs, h => by
    unfold L2.wipe
    by_cases hi : i ∈ vs
    · rw [wipe_set hi]
    · have e : i = v := by
        rcases List.mem_cons.mp h with e | e
        · exact e
        · exact absurd e hi
      subst e
      have out : ∀ ws : List Nat, i ∉ ws → L2.wipe (σ.set i o) ws = (L2.wipe σ ws).set i o := by
        intro ws
        induction ws with
        | nil => intro _; rfl
        | cons w ws ih =>
          intro hw
          unfold L2.wipe
          rw [ih fun z => hw (List.mem_cons_of_mem _ z), List.set_comm _ _ (fun z : i = w => hw (by rw [z]; exact List.mem_cons_self))]
      rw [out vs hi, List.set_set]
theorem wipe_sets {vs : List Nat} {σ σ' : L2.St} (h : Sets vs σ σ') : L2.wipe σ' vs = L2.wipe σ vs := by
  induction h with
  | refl => rfl
  | step _ hi ih => rw [wipe_set hi, ih]
theorem wipe_idem {σ : L2.St} : ∀ (vs : List Nat), L2.wipe (L2.wipe σ vs) vs = L2.wipe σ vs := by
  have out : ∀ (ws us : List Nat) (σ : L2.St), (∀ i ∈ ws, i ∈ us) → L2.wipe (L2.wipe σ ws) us = L2.wipe σ us := by
    intro ws us
    induction ws with
    | nil => intro σ _; rfl
    | cons w ws ih =>
      intro σ h
      show L2.wipe ((L2.wipe σ ws).set w none) us = _
      rw [wipe_set (h w List.mem_cons_self), ih σ fun i hi => h i (List.mem_cons_of_mem _ hi)]
  exact fun vs => out vs vs σ fun _ h => h
/-- the tests of one for of a comprehension -/
def GTs (X : Cx) (m : Am) (d : Nat) (es : List Expr) (Γ : Env) (P : Bool → Prop) (d' : Nat) : Prop := ∃ t, PTs X es t ∧ EvT m d t Γ P d'
abbrev BlkE (X : Cx) (scope : Scope) (s : Shared) (H : Hp) (Cd : Addr) (cl : List (Str × Addr)) (fp : List Addr) : Cx := X.blk s H scope (compEnvC scope cl Cd X.env) fp
theorem ev_lc {wi : TI} {g : TG} {tt : TT} {te : TE} {vs : List Nat} {P : List γ → Prop} {D : Rep δ} (c dr : Nat) {Γ2 : γ → Env} {T : γ → Bool → Prop} {E : γ → δ → Prop} (hi : EvI m d wi Γ C P d1) (hl : ∀ l, P l → l.length ≤ sizeLine) (hr : ∀ l, P l → d1 + c * l.length ≤ dr)
    (hg : ∀ x n σ W v, Good m n W → EnvOk m (wipeE Γ vs) σ W → C.r W.S v x → ∀ Q : L2.St → Hp → Prop, (∀ σ', EnvOk m (Γ2 x) σ' W → Sets vs σ σ' → Q σ' W.H) → g v σ W.H Q)
    (ht : ∀ l x n, P l → x ∈ l → EvT m n tt (Γ2 x) (T x) n) (he : ∀ l x n, P l → x ∈ l → T x true → n + c ≤ dr → Ev m n te (Γ2 x) D (E x) (n + c)) :
    Ev m d (tLc wi g tt te vs) Γ (jL D) (fun ys => ∃ l, P l ∧ LcR T E l ys) dr := by
  intro σ W gd eo Q q
  refine hi σ W gd eo _ fun J W1 l pl l1 src Dl hD => ?_
  obtain ⟨G, Y, wk, hG, hY⟩ := src.ex
  have hll := hl l pl
  have hDW : W.H Dl = none := l1.fresh hD
  refine lc_it wk (fun i H' => ∃ W' xs ys, W'.H = H' ∧ Le m (d1 + c * i) W W' ∧ Same W1.S W'.S ∧ W'.S Dl = none ∧ ¬ m.F Dl ∧ W'.H Dl = some (.lst xs) ∧ All2 D W'.S xs ys ∧ LcR T E (l.take i) ys) ?_ ?_ ?_ ?_
  · exact ⟨⟨W1.S, upd W1.H Dl (.lst [])⟩, [], [], rfl, (l1.trans (l1.good.put hD)).up (Nat.le_add_right _ _), fun _ _ h => h, l1.good.fresh hD, l1.good.nf hD, upd_same, trivial, by simpa using LcR.nil⟩
  · rintro i H' _ ⟨W', xs, ys, rfl, lW, s1, _⟩
    exact hG _ W' s1 lW.good
  · rintro i x H' H'' hi' ⟨W', xs, ys, rfl, lW, s1, nS, nF, hx, h2, lc⟩ y
    obtain ⟨S', z, l2, hz, r⟩ := hY _ i W' x H'' hi' s1 lW.good y
    have htake : l.take (i + 1) = l.take i ++ [z] := by
      rw [List.take_succ, hz]; rfl
    have hzl : z ∈ l := List.mem_of_getElem? hz
    have hil : i < l.length := hi'
    have hcost : d1 + c * (i + 1) ≤ dr := Nat.le_trans (Nat.add_le_add_left (Nat.mul_le_mul_left c hil) d1) (hr l pl)
    have e0 : d1 + c * i + c = d1 + c * (i + 1) := by rw [Nat.mul_add, Nat.mul_one, Nat.add_assoc]
    refine hg z _ _ ⟨S', H''⟩ x l2.good ((eo.mono (lW.trans l2)).wipe vs) r _ fun σ2 eo2 st => ⟨?_, ?_⟩
    · rw [wipe_sets st]; exact wipe_idem vs
    refine ht l z _ pl hzl σ2 ⟨S', H''⟩ l2.good eo2 _ fun b W3 pb l3 => ?_
    have l23 := l2.trans l3
    have nS3 := l23.new Dl _ hx nS
    have hx3 := l23.keep Dl _ nF hx
    cases b with
    | false =>
      refine iteF ⟨W3, xs, ys, rfl, ((lW.trans l23).up (by rw [← e0]; exact Nat.le_add_right _ _)), s1.trans l23.ext, nS3, nF, hx3, h2.mono l23.ext, ?_⟩
      rw [htake]; exact .skip lc pb
    | true =>
      refine iteT (he l z _ pl hzl pb (by rw [e0]; exact hcost) σ2 W3 l3.good (eo2.mono l3) _ fun u w W4 pw l4 r4 => ?_)
      have l24 := l23.trans l4
      have nS4 := l24.new Dl _ hx nS
      have hx4 := l24.keep Dl _ nF hx
      have hlen : xs.length < sizeLine := by
        have := lc.len
        rw [List.length_take] at this
        rw [h2.len]; omega
      refine ⟨xs, hx4, hlen, ⟨W4.S, upd W4.H Dl (.lst (xs ++ [u]))⟩, xs ++ [u], ys ++ [w], rfl, ?_, s1.trans l24.ext, nS4, nF, upd_same, (h2.mono l24.ext).app ⟨r4, trivial⟩, by rw [htake]; exact .keep lc pb pw⟩
      rw [← e0]
      exact (lW.trans l24).turn hDW nS4 nF
  · rintro H' ⟨W', xs, ys, rfl, lW, s1, nS, nF, hx, h2, lc⟩
    rw [List.take_length] at lc
    have sm : Same W'.S (upd W'.S Dl (.lst xs)) := Same.rest nS
    refine q (.ref Dl) ys ⟨upd W'.S Dl (.lst xs), W'.H⟩ ⟨l, pl, lc⟩ (((lW.up (hr l pl)).rest hDW hx nS nF)) ⟨Dl, xs, rfl, upd_same, ?_, h2.mono sm⟩
    rw [h2.len]
    exact Nat.le_trans lc.len hll
section
variable {elt tg iter c0 : Expr} {scope : Scope} {own : List (Str × Nat)} {P : List γ → Prop} {D : Rep δ} {Γ2 : γ → Env} {T : γ → Bool → Prop} {E : γ → δ → Prop}
/-- what is asked of a comprehension's parts -/
structure LcOk (X : Cx) (m : Am) (d d1 : Nat) (Γ : Env) (elt tg iter : Expr) (ifs : List Expr) (scope : Scope) (vs : List Nat) (C : Rep γ) (P : List γ → Prop) (D : Rep δ) (T : γ → Bool → Prop) (E : γ → δ → Prop) (dr : Nat) : Prop where
  ex : ∃ (g : TG) (tt : TT) (te : TE), (∀ s H Cd cl fp, PG (BlkE X scope s H Cd cl fp) tg g ∧ PTs (BlkE X scope s H Cd cl fp) ifs tt ∧ PE (BlkE X scope s H Cd cl fp) elt te) ∧ Ev m d (tLc (wI X tg iter) g tt te vs) Γ (jL D) (fun ys => ∃ l, P l ∧ LcR T E l ys) dr
/-- no if -/
theorem lc_0 (c dr : Nat) (hi : GI X m d tg iter Γ C P d1) (hl : ∀ l, P l → l.length ≤ sizeLine) (hr : ∀ l, P l → d1 + c * l.length ≤ dr)
    (hg : ∀ s H Cd cl fp x, GB (BlkE X scope s H Cd cl fp) m tg (wipeE Γ (own.map (·.2))) C x (Γ2 x) (own.map (·.2)))
    (he : ∀ s H Cd cl fp l x n, P l → x ∈ l → n + c ≤ dr → GE (BlkE X scope s H Cd cl fp) m n elt (Γ2 x) D (E x) (n + c)) : LcOk X m d d1 Γ elt tg iter [] scope (own.map (·.2)) C P D (fun _ b => b = true) E dr :=
  ⟨fun v σ H Q => ∀ s H0 Cd cl fp, wG (BlkE X scope s H0 Cd cl fp) tg v σ H Q, tYes, fun σ H Q => ∀ s H0 Cd cl fp, wE (BlkE X scope s H0 Cd cl fp) elt σ H Q,
    fun s H Cd cl fp => ⟨⟨fun pins s' σ H' v u Q I r h => h s H Cd cl fp pins s' u I r⟩, pts_nil, ⟨fun pins s' σ H' Q I h => h s H Cd cl fp pins s' I⟩⟩,
    ev_lc c dr hi hl hr (fun x n σ W v g eo r Q q s H Cd cl fp => hg s H Cd cl fp x n σ W v g eo r Q q) (fun l x n _ _ σ W g eo Q q => q true W rfl (Le.refl g)) (fun l x n pl hx _ hn σ W g eo Q q s H Cd cl fp => he s H Cd cl fp l x n pl hx hn σ W g eo Q q)⟩
/-- one if -/
theorem lc_1 (c dr : Nat) (hi : GI X m d tg iter Γ C P d1) (hl : ∀ l, P l → l.length ≤ sizeLine) (hr : ∀ l, P l → d1 + c * l.length ≤ dr)
    (hg : ∀ s H Cd cl fp x, GB (BlkE X scope s H Cd cl fp) m tg (wipeE Γ (own.map (·.2))) C x (Γ2 x) (own.map (·.2)))
    (ht : ∀ s H Cd cl fp l x n, P l → x ∈ l → GT (BlkE X scope s H Cd cl fp) m n c0 (Γ2 x) (T x) n)
    (he : ∀ s H Cd cl fp l x n, P l → x ∈ l → T x true → n + c ≤ dr → GE (BlkE X scope s H Cd cl fp) m n elt (Γ2 x) D (E x) (n + c)) : LcOk X m d d1 Γ elt tg iter [c0] scope (own.map (·.2)) C P D T E dr :=
  ⟨fun v σ H Q => ∀ s H0 Cd cl fp, wG (BlkE X scope s H0 Cd cl fp) tg v σ H Q, fun σ H Q => ∀ s H0 Cd cl fp, wT (BlkE X scope s H0 Cd cl fp) c0 σ H Q, fun σ H Q => ∀ s H0 Cd cl fp, wE (BlkE X scope s H0 Cd cl fp) elt σ H Q,
    fun s H Cd cl fp => ⟨⟨fun pins s' σ H' v u Q I r h => h s H Cd cl fp pins s' u I r⟩, pts_one ⟨fun pins s' σ H' Q I h => h s H Cd cl fp pins s' I⟩, ⟨fun pins s' σ H' Q I h => h s H Cd cl fp pins s' I⟩⟩,
    ev_lc c dr hi hl hr (fun x n σ W v g eo r Q q s H Cd cl fp => hg s H Cd cl fp x n σ W v g eo r Q q) (fun l x n pl hx σ W g eo Q q s H Cd cl fp => ht s H Cd cl fp l x n pl hx σ W g eo Q q) (fun l x n pl hx pt hn σ W g eo Q q s H Cd cl fp => he s H Cd cl fp l x n pl hx pt hn σ W g eo Q q)⟩
/-- [e for tg in iter if ..] -/
theorem ge_lc {ifs : List Expr} {dr : Nat} (hc : X.calm = true) (hN : X.N.Nodup) (ok : BlkOk X.N X.env.scope scope own) (h : LcOk X m d d1 Γ elt tg iter ifs scope (own.map (·.2)) C P D T E dr)
    (hs : ∀ x, foldedSetIterable iter X.env x = pure x := by intro _; rfl) : GE X m d (.ListComp elt [⟨tg, iter, ifs, 0⟩] scope pos) Γ (jL D) (fun ys => ∃ l, P l ∧ LcR T E l ys) dr := by
  obtain ⟨g, tt, te, h1, h2⟩ := h.ex
  exact ge_of (pe_lc hc hN pi_w ok (fun s H Cd cl fp => (h1 s H Cd cl fp).1) (fun s H Cd cl fp => (h1 s H Cd cl fp).2.1) (fun s H Cd cl fp => (h1 s H Cd cl fp).2.2) hs) h2
/-- x = [e for tg in iter if ..] -/
theorem gs_lc (i : Nat) {x : Str} {ifs : List Expr} {dr : Nat} {py spos : Pos} (hc : X.calm = true) (hN : X.N.Nodup) (ok : BlkOk X.N X.env.scope scope own) (h : LcOk X m d d1 Γ elt tg iter ifs scope (own.map (·.2)) C P D T E dr)
    (k : ∀ ys, (∃ l, P l ∧ LcR T E l ys) → GS X m dr B rest (Γ.set i (some (.pv (jL D) ys))) K) (hi : X.N[i]? = some x := by rfl) (hx : X.env.scope.names.lookup x = some .local := by rfl)
    (hsw : swapsWith (.ListComp elt [⟨tg, iter, ifs, 0⟩] scope pos) (some (.Name x py)) spos.line X.env = pure true := by exact sw_true rfl rfl rfl (by decide +kernel))
    (hs : ∀ x, foldedSetIterable iter X.env x = pure x := by intro _; rfl) : GS X m d B (.Assign [.Name x py] (.ListComp elt [⟨tg, iter, ifs, 0⟩] scope pos) spos :: rest) Γ K := by
  obtain ⟨g, tt, te, h1, h2⟩ := h.ex
  exact gs_of (pss_cons (ps_setLc hc hN hi hx hsw pi_w ok (fun s H Cd cl fp => (h1 s H Cd cl fp).1) (fun s H Cd cl fp => (h1 s H Cd cl fp).2.1) (fun s H Cd cl fp => (h1 s H Cd cl fp).2.2) hs) pss_w) fun on σ W l eo D' dk =>
    h2 σ W l.good eo _ fun v ys W1 p1 l1 r1 => k ys p1 (on.setPv i) _ W1 (l.trans l1) ((eo.mono l1).set i r1) D' (dk.mono l1.ext)
end

/-! ### the body of a def -/
/-- the slots that the arguments fill -/
structure AEnv (R : ARep τ) (n : Nat) (G : τ → Env) : Prop where
  len : ∀ S vs t, R.r S vs t → vs.length = n
  gl : ∀ t, (G t).length = n
  at_ : ∀ (S : Hp) (vs : List V) (t : τ) (i : Nat) (e : Ent), R.r S vs t → (G t)[i]? = some (some e) → ∃ (v : V) (α : Type) (A : Rep α) (a : α), vs[i]? = some v ∧ e = Ent.pv A a ∧ A.r S v a
theorem ae_nil : AEnv aN 0 (fun _ => []) := ⟨fun _ _ _ h => by rw [show _ = [] from h]; rfl, fun _ => rfl, fun _ _ _ _ _ _ h => by simp at h⟩
theorem ae_cons {A : Rep γ} {R : ARep τ} {n : Nat} {G : τ → Env} (h : AEnv R n G) : AEnv (aC A R) (n + 1) (fun t => some (.pv A t.1) :: G t.2) := by
  refine ⟨fun S vs t ⟨v, r, e, _, h2⟩ => by rw [e, List.length_cons, h.len _ _ _ h2], fun t => by rw [List.length_cons, h.gl], fun S vs t i e ⟨v, r, e', h1, h2⟩ hi => ?_⟩
  subst e'
  cases i with
  | zero =>
    simp at hi
    exact ⟨v, γ, A, t.1, rfl, hi.symm, h1⟩
  | succ i =>
    obtain ⟨u, α, A', a, q1, q2, q3⟩ := h.at_ S r t.2 i e h2 (by simpa using hi)
    exact ⟨u, α, A', a, by simpa using q1, q2, q3⟩
theorem AEnv.start {R : ARep τ} {n : Nat} {G : τ → Env} (h : AEnv R n G) {N : List Str} {vs : List V} {t : τ} {W : Wd} (r : R.r W.S vs t) (hn : n ≤ N.length) : EnvOk m (G t ++ List.replicate (N.length - n) none) (start N vs) W := by
  have hl := h.len _ _ _ r
  have hg := h.gl t
  refine ⟨by unfold L2.start; simp [hl, hg], fun i e hi => ?_⟩
  by_cases hin : i < n
  · rw [List.getElem?_append_left (by omega)] at hi
    obtain ⟨v, α, A, a, q1, q2, q3⟩ := h.at_ _ _ _ _ _ r hi
    refine ⟨v, ?_, by rw [q2]; exact q3⟩
    unfold L2.start
    rw [List.getElem?_append_left (by simp; omega), List.getElem?_map, q1]; rfl
  · rw [List.getElem?_append_right (by omega), List.getElem?_replicate] at hi
    split at hi <;> cases hi
theorem AEnv.own {R : ARep τ} {n : Nat} {G : τ → Env} (h : AEnv R n G) {S : Hp} {vs : List V} {t : τ} {k : Nat} (r : R.r S vs t) : OwnNew B (G t ++ List.replicate k none) := by
  have no : ∀ (i : Nat) (β : Type) (p : Addr) (O : ORep β) (b : β), (G t ++ List.replicate k none)[i]? ≠ some (some (.own p O b)) := by
    intro i β p O b hi
    by_cases hin : i < (G t).length
    · rw [List.getElem?_append_left hin] at hi
      obtain ⟨v, α, A, a, _, q2, _⟩ := h.at_ _ _ _ _ _ r hi
      cases q2
    · rw [List.getElem?_append_right (by omega), List.getElem?_replicate] at hi
      split at hi <;> cases hi
  exact ⟨fun i β p O b e => absurd e (no i β p O b), fun i j β γ p q O b O' b' e => absurd e (no i β p O b)⟩
/-- what a def hands back that ends without a return -/
def NxN (A : Rep α) (P : α → Prop) (rd : Nat) : Nat → Env → Prop := fun n _ => n ≤ rd ∧ ∃ a, P a ∧ ∀ S, A.r S .non a
abbrev Kf (A : Rep α) (P : α → Prop) (rd : Nat) : Kn α := ⟨NxN A P rd, A, P, rd, fun _ _ => False, fun _ _ => False⟩
section
variable {Pg : Program} {w : World} {Kf' : PySem.W.Frag} {mg : Str → Option Value} {base : Heap}
theorem fn_okP {c : Ctr τ α} {x qual : Str} {stt : Stmt} {f : Addr} {fd : FuncData} {N ps : List Str} {k n : Nat} {G : τ → Env} (F : Fun Kf' x qual stt f fd) (S : FnScope N ps (defScope stt)) (ae : AEnv c.ra n G) (hn : n = ps.length)
    (hb : ∀ (cdv : Value) (A : Around) (outer : List PySem.Env) (s : Shared) (H : Hp) (E : XK) (B : Wd) (t : τ), Room k (A.deeper (PyProof.Rows.envOfC qual (defScope stt) s.heap.objs.size f cdv)) → c.pre t →
      GS (cxOf CX0 Pg w Kf' mg base N qual (defScope stt) f cdv A outer s H E).nox Am.no 0 B (defBody stt) (G t ++ List.replicate (N.length - n) none) (Kf c.R (c.post t) 0)) : FnOk Pg w Kf' mg base CX0 (k + 1) f fd ps (spP c) := by
  have hnN : n ≤ N.length := by
    have := congrArg List.length S.pre
    rw [List.length_take] at this
    omega
  refine F.ok S (fun vs H Q E h => ?_) (fun cdv A outer s H vs Q E hr h => ?_)
  · obtain ⟨S', t, _, hra, _⟩ := h
    rw [ae.len _ _ _ hra, hn]
  · obtain ⟨S', t, sub, hra, hpre, k'⟩ := h
    have g : Good Am.no 0 ⟨S', H⟩ := ⟨sub, trivial, fun _ f => f.elim⟩
    refine ⟨wS _ (defBody stt), pss_w, ?_⟩
    refine hb cdv A outer s H E ⟨S', H⟩ t hr hpre (ae.own (S := S') (vs := vs) hra) _ ⟨S', H⟩ (Le.refl g) (ae.start (W := ⟨S', H⟩) hra hnN) _ ⟨?_, ?_, ?_, ?_⟩
    · rintro d Γ σ W ⟨hd, a, pa, ra⟩ l _ _ _
      exact k' .non a W.S W.H pa (by have := l.up hd; exact this) (ra W.S)
    · exact fun v a W pa l ra => k' v a W.S W.H pa l ra
    · exact fun _ _ _ _ h => h.elim
    · exact fun _ _ _ _ h => h.elim
end
end
end Gm

set_option Elab.async false
set_option linter.all false
set_option maxRecDepth 100000
namespace Gm
open PySem L2
section
variable {α β γ δ τ : Type} {X : Cx} {m : Am} {d d1 d2 d3 : Nat} {B : Wd} {Γ Γ' : Env} {e a b : Expr} {A : Rep α} {C : Rep γ} {P P' : γ → Prop} {pos p' : Pos} {K : Kn α} {rest body els sts : List Stmt} {st : Stmt}
/-- o.f of a thing that never changes -/
def FldV (K : PySem.W.Frag) (A : Rep α) (B : Rep β) (f : Str) (g : α → β) : Prop := ∀ S v a, A.r S v a → ∃ p C dx fs u, v = .ref p ∧ S p = some (.ins C dx fs) ∧ Cls K C ∧ NoAttr K C f ∧ fs.lookup f = some u ∧ B.r S u (g a)
theorem ge_fld {B : Rep β} {f : Str} {g : α → β} {x : α} (h : FldV X.K A B f g) (ha : GE X m d e Γ A (fun z => z = x) d1) (hb : attributeBase e f X.env (eval e X.env) = eval e X.env := by rfl) : GE X m d (.Attribute e f pos) Γ B (fun z => z = g x) d1 :=
  ge_of (pe_fld pe_w hb) fun σ W gd eo Q q => ha σ W gd eo _ fun v y W1 p1 l1 r1 => by
    obtain ⟨p, C, dx, fs, u, e1, h1, c, n, h2, h3⟩ := h _ _ _ r1
    exact ⟨p, C, dx, fs, u, e1, l1.good.sub _ _ h1, c, n, h2, q u (g y) W1 (by rw [p1]) l1 h3⟩
/-- a def by a function of its arguments -/
abbrev ctrF (ra : ARep τ) (pre : τ → Prop) (R : Rep α) (f : τ → α) : Ctr τ α := ⟨ra, pre, R, fun t a => a = f t⟩
theorem ge_fnF {ra : ARep τ} {pre : τ → Prop} {f : τ → α} {x : Str} {q1 : Pos} {es : List Expr} {k k0 : Nat} {ps : List Str} {t : τ} {CX : CXT} {E : XK} (F : FnAt X.prog X.w X.K X.mg X.base CX k x ps (spP (ctrF ra pre A f))) (hr : Room k0 X.A) (hk : k ≤ k0) (hx : Passes CX X E) (ha : GA X m d (e :: es) Γ ra (fun z => z = t) d1) (hp : pre t)
    (hg : Gl X x := by rfl) (hdb : (x == ("__debug__" : Str)) = false := by decide) (he : starEach (e :: es) X.env = (false, eval e X.env) :: starEach es X.env := by rfl) (hpl : (backTo pos (starEach es X.env)).any (·.1) = false := by rfl) :
    GE X m d (.Call (.Name x q1) (e :: es) [] pos) Γ A (fun a => a = f t) d1 := (ge_fn F (hr.mono hk) hx ha (fun _ e => e ▸ hp) hg hdb he hpl).imp fun z ⟨t', e1, e2⟩ => by rw [e2, e1]
theorem gs_ifF {c : Expr} {x : Bool} {nx bk ct : Nat → Env → Prop} {rd : Nat} {P' : α → Prop} (hc : GT X m d c Γ (fun z => z = x) d1) (h1 : x = true → GS X m d1 B body Γ ⟨fun n Γ' => GS X m n B rest Γ' ⟨nx, A, P', rd, bk, ct⟩, A, P', rd, bk, ct⟩) (h2 : x = false → GS X m d1 B els Γ ⟨fun n Γ' => GS X m n B rest Γ' ⟨nx, A, P', rd, bk, ct⟩, A, P', rd, bk, ct⟩) :
    GS X m d B (.If c body els pos :: rest) Γ ⟨nx, A, P', rd, bk, ct⟩ := gs_if hc (fun e => h1 e.symm) (fun e => h2 e.symm)
theorem ge_bmul {x y : Int} (ha : GE X m d a Γ jI (fun z => z = x) d1) (hb : GE X m d1 b Γ jI (fun z => z = y) d2) (hs : CMul x y) : GE X m d (.BinOp a .Mult b pos) Γ jI (fun z => z = x * y) d2 := ge_binF (x := x) (y := y) op_mul ov_CI ha hb hs
theorem ge_badd {x y : Int} (ha : GE X m d a Γ jI (fun z => z = x) d1) (hb : GE X m d1 b Γ jI (fun z => z = y) d2) : GE X m d (.BinOp a .Add b pos) Γ jI (fun z => z = x + y) d2 := ge_binF (x := x) (y := y) op_add ov_II ha hb trivial
theorem ge_bsub {x y : Int} (ha : GE X m d a Γ jI (fun z => z = x) d1) (hb : GE X m d1 b Γ jI (fun z => z = y) d2) : GE X m d (.BinOp a .Sub b pos) Γ jI (fun z => z = x - y) d2 := ge_binF (x := x) (y := y) op_sub ov_II ha hb trivial
theorem ge_bdiv {x y : Int} (ha : GE X m d a Γ jI (fun z => z = x) d1) (hb : GE X m d1 b Γ jI (fun z => z = y) d2) (hs : CDiv x y) : GE X m d (.BinOp a .FloorDiv b pos) Γ jI (fun z => z = x / y) d2 := ge_binF (x := x) (y := y) op_fdiv ov_CI ha hb hs
theorem ge_bmod {x y : Int} (ha : GE X m d a Γ jI (fun z => z = x) d1) (hb : GE X m d1 b Γ jI (fun z => z = y) d2) (hs : 0 < y) : GE X m d (.BinOp a .Mod b pos) Γ jI (fun z => z = x % y) d2 := ge_binF (x := x) (y := y) op_mod ov_CI ha hb hs
theorem ge_neg {x : Int} (ha : GE X m d a Γ jI (fun z => z = x) d1) : GE X m d (.UnaryOp .USub a pos) Γ jI (fun z => z = -x) d1 := ge_of (pe_un un_neg pe_w) fun σ W g eo Q q => ha σ W g eo _ fun v y W1 p1 l1 r1 => ⟨y, r1, q _ (-y) W1 (by rw [p1]) l1 rfl⟩
theorem gt_lt {x y : Int} (ha : GE X m d a Γ jI (fun z => z = x) d1) (hb : GE X m d1 b Γ jI (fun z => z = y) d2) : GT X m d (.Compare a [.Lt] [b] pos) Γ (fun z => z = decide (x < y)) d2 := gt_cmpF (x := x) (y := y) op_lt ov_IB ha hb trivial (nobehind _ (by decide) (by decide))
theorem gt_le {x y : Int} (ha : GE X m d a Γ jI (fun z => z = x) d1) (hb : GE X m d1 b Γ jI (fun z => z = y) d2) : GT X m d (.Compare a [.LtE] [b] pos) Γ (fun z => z = decide (x ≤ y)) d2 := gt_cmpF (x := x) (y := y) op_le ov_IB ha hb trivial (nobehind _ (by decide) (by decide))
theorem gt_gt {x y : Int} (ha : GE X m d a Γ jI (fun z => z = x) d1) (hb : GE X m d1 b Γ jI (fun z => z = y) d2) : GT X m d (.Compare a [.Gt] [b] pos) Γ (fun z => z = decide (y < x)) d2 := gt_cmpF (x := x) (y := y) op_gt ov_IB ha hb trivial (nobehind _ (by decide) (by decide))
theorem gt_ge {x y : Int} (ha : GE X m d a Γ jI (fun z => z = x) d1) (hb : GE X m d1 b Γ jI (fun z => z = y) d2) : GT X m d (.Compare a [.GtE] [b] pos) Γ (fun z => z = decide (y ≤ x)) d2 := gt_cmpF (x := x) (y := y) op_ge ov_IB ha hb trivial (nobehind _ (by decide) (by decide))
theorem gt_eq {x y : Int} (ha : GE X m d a Γ jI (fun z => z = x) d1) (hb : GE X m d1 b Γ jI (fun z => z = y) d2) : GT X m d (.Compare a [.Eq] [b] pos) Γ (fun z => z = decide (x = y)) d2 := gt_cmpF (x := x) (y := y) op_eq ov_eqI ha hb trivial (nobehind _ (by decide) (by decide))
theorem gt_ne {x y : Int} (ha : GE X m d a Γ jI (fun z => z = x) d1) (hb : GE X m d1 b Γ jI (fun z => z = y) d2) : GT X m d (.Compare a [.NotEq] [b] pos) Γ (fun z => z = !decide (x = y)) d2 := gt_cmpF (x := x) (y := y) op_ne ov_neI ha hb trivial (nobehind _ (by decide) (by decide))
theorem ge_lt {x y : Int} (ha : GE X m d a Γ jI (fun z => z = x) d1) (hb : GE X m d1 b Γ jI (fun z => z = y) d2) : GE X m d (.Compare a [.Lt] [b] pos) Γ jB (fun z => z = decide (x < y)) d2 := ge_cmpF (x := x) (y := y) op_lt ov_IB ha hb trivial (nobehind _ (by decide) (by decide))
theorem ge_le {x y : Int} (ha : GE X m d a Γ jI (fun z => z = x) d1) (hb : GE X m d1 b Γ jI (fun z => z = y) d2) : GE X m d (.Compare a [.LtE] [b] pos) Γ jB (fun z => z = decide (x ≤ y)) d2 := ge_cmpF (x := x) (y := y) op_le ov_IB ha hb trivial (nobehind _ (by decide) (by decide))
theorem ge_gt {x y : Int} (ha : GE X m d a Γ jI (fun z => z = x) d1) (hb : GE X m d1 b Γ jI (fun z => z = y) d2) : GE X m d (.Compare a [.Gt] [b] pos) Γ jB (fun z => z = decide (y < x)) d2 := ge_cmpF (x := x) (y := y) op_gt ov_IB ha hb trivial (nobehind _ (by decide) (by decide))
theorem ge_ge {x y : Int} (ha : GE X m d a Γ jI (fun z => z = x) d1) (hb : GE X m d1 b Γ jI (fun z => z = y) d2) : GE X m d (.Compare a [.GtE] [b] pos) Γ jB (fun z => z = decide (y ≤ x)) d2 := ge_cmpF (x := x) (y := y) op_ge ov_IB ha hb trivial (nobehind _ (by decide) (by decide))
theorem ge_eq {x y : Int} (ha : GE X m d a Γ jI (fun z => z = x) d1) (hb : GE X m d1 b Γ jI (fun z => z = y) d2) : GE X m d (.Compare a [.Eq] [b] pos) Γ jB (fun z => z = decide (x = y)) d2 := ge_cmpF (x := x) (y := y) op_eq ov_eqI ha hb trivial (nobehind _ (by decide) (by decide))
theorem ge_ne {x y : Int} (ha : GE X m d a Γ jI (fun z => z = x) d1) (hb : GE X m d1 b Γ jI (fun z => z = y) d2) : GE X m d (.Compare a [.NotEq] [b] pos) Γ jB (fun z => z = !decide (x = y)) d2 := ge_cmpF (x := x) (y := y) op_ne ov_neI ha hb trivial (nobehind _ (by decide) (by decide))
theorem ge_min2 {x y : Int} {q1 : Pos} (hc : X.calm = true) (hm : X.mg "min" = none) (ha : GE X m d a Γ jI (fun z => z = x) d1) (hb : GE X m d1 b Γ jI (fun z => z = y) d2) (hg : Gl X "min" := by rfl) (he : starEach [a, b] X.env = (false, eval a X.env) :: starEach [b] X.env := by rfl)
    (hpl : (backTo pos (starEach [b] X.env)).any (·.1) = false := by rfl) (hst2 : starEach [b] X.env = (false, eval b X.env) :: starEach [] X.env := by rfl) : GE X m d (.Call (.Name "min" q1) [a, b] [] pos) Γ jI (fun z => z = min x y) d2 :=
  (ge_b2 (id' := "min") (call_min2 hc) cv_min hm ha hb (fun _ _ _ _ => trivial) hg (by decide +kernel) (by decide) (by decide) he hpl hst2).imp fun z ⟨_, _, e1, e2, e3⟩ => by rw [e3, e1, e2]
theorem ge_max2 {x y : Int} {q1 : Pos} (hc : X.calm = true) (hm : X.mg "max" = none) (ha : GE X m d a Γ jI (fun z => z = x) d1) (hb : GE X m d1 b Γ jI (fun z => z = y) d2) (hg : Gl X "max" := by rfl) (he : starEach [a, b] X.env = (false, eval a X.env) :: starEach [b] X.env := by rfl)
    (hpl : (backTo pos (starEach [b] X.env)).any (·.1) = false := by rfl) (hst2 : starEach [b] X.env = (false, eval b X.env) :: starEach [] X.env := by rfl) : GE X m d (.Call (.Name "max" q1) [a, b] [] pos) Γ jI (fun z => z = max x y) d2 :=
  (ge_b2 (id' := "max") (call_max2 hc) cv_max hm ha hb (fun _ _ _ _ => trivial) hg (by decide +kernel) (by decide) (by decide) he hpl hst2).imp fun z ⟨_, _, e1, e2, e3⟩ => by rw [e3, e1, e2]
end
end Gm

set_option Elab.async false
set_option linter.all false
set_option maxRecDepth 100000
/-! Gm7: calls where no display is under way (A.guards = some []), so that repr may be asked. -/
namespace L2
open PySem PySem.Spec PyProof.Rows
structure FnOkG (P : Program) (w : World) (K : PySem.W.Frag) (mg : Str → Option Value) (base : Heap) (CX : CXT) (k : Nat)
    (f : Addr) (fd : FuncData) (ps : List Str) (sp : Sp) : Prop where
  len : ∀ vs H Q E, sp vs H Q E → vs.length = ps.length
  run : ∀ (A : Around) (outer : List Env) (s : Shared) (H : Hp) (args : Args) (us : List Value) (vs : List V) (Q : VK) (E : XK),
    A.guards = some [] → Room k A → Env0 P w K mg base A outer s H → BindsTo s fd args (ps.zip us) → Vals vs us → sp vs H Q E →
    codeAny (model P w) A (.call (.ref f) args) (CR CX outer P w H s Q E) s
theorem FnOk.toG {P : Program} {w : World} {K : PySem.W.Frag} {mg : Str → Option Value} {base : Heap} {CX : CXT} {k : Nat} {f : Addr} {fd : FuncData}
    {ps : List Str} {sp : Sp} (F : FnOk P w K mg base CX k f fd ps sp) : FnOkG P w K mg base CX k f fd ps sp :=
  ⟨F.len, fun A outer s H args us vs Q E _ => F.run A outer s H args us vs Q E⟩
theorem FnOkG.mono {P : Program} {w : World} {K : PySem.W.Frag} {mg : Str → Option Value} {base : Heap} {CX : CXT} {j k : Nat} {f : Addr} {fd : FuncData}
    {ps : List Str} {sp : Sp} (F : FnOkG P w K mg base CX j f fd ps sp) (h : j ≤ k) : FnOkG P w K mg base CX k f fd ps sp :=
  ⟨F.len, fun A outer s H args us vs Q E hg hr => F.run A outer s H args us vs Q E hg (hr.mono h)⟩
theorem fnG_of {CX : CXT} {P : Program} {w : World} {K : PySem.W.Frag} {mg : Str → Option Value} {base : Heap} {k : Nat} {f : Addr} {name qual : Str} {params : Arguments} {body : List Stmt} {scope : Scope} {dV kV doc pm cdv ct oc : Value} {an od : Option Addr}
    {osl : Array (Option Value)} {N ps : List Str} {sp : Sp} (lk : K.lookup f = some ⟨oc, od, .func (PySem.W.fnOf name qual params body scope dV kV doc pm an cdv ct), osl⟩)
          (hcd : PySem.W.codeIn K cdv qual = true) (S : FnScope N ps scope)
    (len : ∀ vs H Q E, sp vs H Q E → vs.length = ps.length)
    (hbody : ∀ (A : Around) (outer : List Env) (s : Shared)
          (H : Hp) (vs : List V) (Q : VK) (E : XK), A.guards = some [] → Room k (A.deeper (envOfC qual scope s.heap.objs.size f cdv)) → sp vs H Q E →
      ∃ t, PSs (cxOf CX P w K mg base N qual scope f cdv A outer s H E) body t ∧ t { nx := fun _ H' => Q .non H', rt := Q } (start N vs) H) :
    FnOkG P w K mg base CX (k + 1) f (PySem.W.fnOf name qual params body scope dV kV doc pm an cdv ct) ps sp := by
  refine ⟨len, fun A outer s H args us vs Q E hgd hr e0 hb r hsp => ?_⟩
  have hl := len _ _ _ _ hsp
  have KX : K.In s.heap := e0.mod.kin.keeps fun b o e => (e0.bs b o e).1
  have lim : s.heap.NoLimit := e0.mod.nolimit.keeps fun b o e => (e0.bs b o e).1
  have hkind : ∀ y ∈ ps.zip us, scope.names.lookup y.1 = some .local ∨ (scope.names.lookup y.1 = some .cell ∧ ((cellsFrom (s.heap.objs.size + 1) scope.names []).lookup y.1).isSome = true) := fun ⟨n, v⟩ hy => by
    rcases S.par n (List.of_mem_zip hy).1 with q | q
    · exact .inl q
    · exact .inr ⟨q, PySem.W.cellsFrom_some _ _ _ (.inl q)⟩
  refine codeAny_call_function hr.depth (KX _ _ lk) rfl S.co S.gen rfl (PySem.W.codeRec_of KX hcd) (hb _ _ _ _ ?_)
  refine wpAny_newFunctionEnv_cells S.kind hkind fun env he s1 x => ?_
  subst he
  refine ⟨lim.keeps x.toInCall.keep, codeAny_func ?_⟩
  obtain ⟨t, ht, hq⟩ := hbody A outer s H vs Q E hgd (hr.deeper _) hsp
  have I : Inv (cxOf CX P w K mg base N qual scope f cdv A outer s H E) [] (start N vs) H s1 := inv_start S hr.hd e0 hl r x
  refine wpAny_mono (ht.run [] s1 (start N vs) H _ I hq) (fun fl s' hs => ?_) fun e s' hs => hs
  have fin : ∀ {σ' : St} {H' : Hp} {v : V} {u : Value}, Inv (cxOf CX P w K mg base N qual scope f cdv A outer s H E) [] σ' H' s' → RelV v u → Q v H' → CE outer P w H s Q u s' :=
    fun {σ' H' v u} J rv q => ⟨v, H', J.os, J.bare, J.base, J.hok, rv, q⟩
  cases fl with
  | ret u =>
    obtain ⟨v, σ', H', J, rv, q⟩ := hs
    exact fin J rv q
  | next =>
    obtain ⟨σ', H', J, q⟩ := hs
    exact fin (v := V.non) (u := Value.none) J rfl q
  | brk =>
    obtain ⟨_, _, _, q⟩ := hs
    exact False.elim q
  | cont =>
    obtain ⟨_, _, _, q⟩ := hs
    exact False.elim q
theorem lawG_call {P : Program} {w : World} {K : PySem.W.Frag} {mg mb : Str → Option Value} {CX : CXT} {k : Nat} {fa a : Addr} {fd : FuncData} {x : Str} {sp : Sp} {s₁ : Shared} {vs : List Value} {ns : List Int}
    (KX : K.In s₁.heap) (hns : s₁.heap.Ns mainGlobals mg)
          (hb : s₁.heap.Ns builtinsNs mb) (hbb : ∀ x : Str, x ≠ "__name__" → mb x = bootBuiltins x) (hlim : s₁.heap.NoLimit) (hg : s₁.gens = #[])
    (ha : s₁.heap.get? a = some { cls := .type "list", data := .seq vs.toArray })
          (hi : IntsAre vs ns) (hl : ns.length ≤ sizeLine) (hr : Room k callerA)
    (F : ∀ base : Heap, K.In base → base.Ns mainGlobals mg → FnOkG P w K mg base CX k fa fd [x] sp)
          (hbind : ∀ (s : Shared) (u : Value), BindsTo s fd ⟨[u], []⟩ [(x, u)])
    (hsp : ∀ H : Hp, Only H → SqL K H a (ns.map V.int) → sp [.ref a] H (fun v _ => v = .bl true) fun _ _ _ => False)
    (hCX : ∀ H e s', CX [] H s₁ (fun _ _ _ => False) e s' → False) :
    codeAny (model P w) callerA (.call (.ref fa) ⟨[.ref a], []⟩) (fun r s' => r = .ok (.ret (.bool true)) ∧ OldK s₁.heap s'.heap ∧ s'.os = s₁.os ∧ AllBare s'.gens) s₁ := by
  have rv := vals_ints hi
  have lenV := hi.length
  have core : ∀ H : Hp, Only H → SqL K H a (ns.map V.int) → HOk P w H s₁.heap → (∀ b, H b ≠ none → b = a) → (H a ≠ none → K.lookup a = none) →
      codeAny (model P w) callerA (.call (.ref fa) ⟨[.ref a], []⟩) (fun r s' => r = .ok (.ret (.bool true)) ∧ OldK s₁.heap s'.heap ∧ s'.os = s₁.os ∧ AllBare s'.gens) s₁ := by
    intro H hO hS hok hA hK
    have base_of : ∀ {b : Addr} {o : Obj}, s₁.heap.get? b = some o → H b = none → (hidT s₁.heap H).get? b = some o := fun e n => hidT_get e n
    have noA : ∀ {b : Addr} {o : Obj} {es : Array DictEntry} {ep : Nat}, s₁.heap.get? b = some o → o.data = .dict es ep → H b = none := fun {b o es ep} e d => by
      cases q : H b with
      | none => rfl
      | some u =>
        have e' : b = a := hA b (by rw [q]; simp)
        subst e'
        rw [ha] at e; cases e
        have d' : Data.seq vs.toArray _ = Data.dict es ep := d
        cases d'
    have nsK : ∀ {b : Addr} {m : Str → Option Value}, s₁.heap.Ns b m → (hidT s₁.heap H).Ns b m := fun {b m} ⟨o, es, ep, e, d, r⟩ => ⟨o, es, ep, base_of e (noA e d), d, r⟩
    have hKb : K.In (hidT s₁.heap H) := fun b o e => base_of (KX b o e) (by
      cases q : H b with
      | none => rfl
      | some u =>
        have e' : b = a := hA b (by rw [q]; simp)
        subst e'
        rw [hK (by rw [q]; simp)] at e; cases e)
    have hM : Mod K mg (hidT s₁.heap H) := ⟨hKb, nsK hns, ⟨mb, nsK hb, hbb⟩, let ⟨mc, h1, h2⟩ := hlim; ⟨mc, nsK h1, h2⟩⟩
    have e0 : Env0 P w K mg (hidT s₁.heap H) callerA [] s₁ H := ⟨rfl, hM, fun b o e => of_hidT e, Nat.le_of_eq (hidT_size _ _), trivial, fun b hb => absurd (show b ∈ ([] : List Addr) from hb) (by simp), hok, .of_eq hg⟩
    refine codeAny_mono ((F _ hKb (nsK hns)).run callerA [] s₁ H ⟨[.ref a], []⟩ [.ref a] [.ref a] _ _ rfl hr e0 (hbind s₁ (.ref a)) (.cons rfl .nil) (hsp H hO hS)) fun r s' h => ?_
    cases r with
    | error e => exact (hCX H e s' h).elim
    | ok fl =>
      cases fl with
      | next => exact False.elim h
      | brk => exact False.elim h
      | cont => exact False.elim h
      | ret u =>
        obtain ⟨v, H', os, bare, un, hok', r', q⟩ := h
        have q' : v = .bl true := q
        subst q'
        obtain rfl : u = Value.bool true := r'
        refine ⟨rfl, OldK.of_keep fun b o e => ?_, os, bare⟩
        cases q : H b with
        | none => exact un.keep b o e q (by intro z; exact absurd (show b ∈ ([] : List Addr) from z) (by simp)) (by simp)
        | some u =>
          rcases hO b with z | ⟨ob, xs, z⟩
          · rw [q] at z; cases z
          · have z2 := un.frzs b ob _ z
            obtain ⟨e1, _⟩ := hok b _ z
            obtain ⟨e2, _⟩ := hok' b _ z2
            rw [e] at e1; cases e1
            exact e2
  cases hk : K.lookup a with
  | some o =>
    have e := KX a o hk
    rw [ha] at e
    cases e
    refine core (fun _ => none) (fun _ => .inl rfl) (.inr ⟨_, vs.toArray, _, hk, rfl, rfl, rfl, by rw [List.size_toArray, lenV]; exact hl, by simpa using rv⟩) (fun b u z => by have z' : (none : Option HO) = some u := z; cases z') (fun b z => absurd rfl z) fun z => absurd rfl z
  | none =>
    refine core (fun b => if b = a then some (.frz { cls := .type "list", data := .seq vs.toArray } (.lst (ns.map V.int))) else none) (fun b => ?_) (.inl (.inr ⟨{ cls := .type "list", data := .seq vs.toArray }, if_pos rfl⟩)) (fun b u z => ?_) (fun b z => ?_) fun _ => hk
    · by_cases hb : b = a
      · exact .inr ⟨_, _, if_pos hb⟩
      · exact .inl (if_neg hb)
    · by_cases hb : b = a
      · have z' := (if_pos hb).symm.trans z
        cases z'
        subst hb
        exact ⟨ha, by rw [List.length_map]; exact hl, vs, _, rv, ha⟩
      · have z' := (if_neg hb).symm.trans z
        cases z'
    · by_cases hb : b = a
      · exact hb
      · exact absurd (if_neg hb) z
theorem walkG_of {l : PySem.W.OpenLaw} {n k : Nat} {q : Program} {loose : List Str} {XP : (Str → Option Value) → Heap → Prop} {YP : World → Heap → Prop} {d : DefRec} {K : Params → PySem.W.Frag} {CX : World → CXT} {sp : World → Sp} {x : Str}
    (hn : l.most = some n) (hn2 : n ≤ sizeLine) (hdf : d.params.defaults = [])
          (hr : Room k callerA)
    (hY : ∀ (w : World) (h : Heap), YP w h → (K w.params).In h)
    (F : ∀ (w : World) (mg : Str → Option Value) (fa : Addr)
          (h : Heap), (K w.params).In h → h.Ns mainGlobals mg → mg d.name = some (.ref fa) →
      ∃ fd : FuncData, (∀ (s : Shared) (u : Value), BindsTo s fd ⟨[u], []⟩ [(x, u)]) ∧
        ∀ base : Heap, (K w.params).In base → base.Ns mainGlobals mg → FnOkG l.prog w (K w.params) mg base (CX w) k fa fd [x] (sp w))
    (hsp : ∀ (w : World) (H : Hp) (a : Addr) (ns : List Int), ns.length ≤ n → Only H → SqL (K w.params) H a (ns.map V.int) → sp w [.ref a] H (fun v _ => v = .bl true) fun _ _ _ => False)
    (hCX : ∀ (w : World) (H : Hp) (s : Shared) (e : Value)
          (s' : Shared), CX w [] H s (fun _ _ _ => False) e s' → False) :
    PySem.W.WalkO q loose XP YP l.row.toRowW d [] (fun f vs => PySem.call f vs) := by
  refine Att.attach_call hn hdf fun w s₀ s₁ mg mb fa o pm cd doc a vs ns G Y ho hd hcd hmg hobj hints hlen hg => ?_
  have KX := hY w _ Y
  obtain ⟨fd, hb, hF⟩ := F w mg fa _ KX G.T.g hmg
  exact lawG_call KX G.T.g G.T.b G.T.builtins G.T.nolimit hg hobj hints (Nat.le_trans hlen hn2) hr hF hb (fun H hO hS => hsp w H a ns hlen hO hS) fun H e s' => hCX w H s₁ e s'
section
variable {X : Cx} {CX : CXT} {k : Nat} {f C : Addr} {fd : FuncData} {ps : List Str} {sp : Sp} {dvs : List V} {ds : List Value} {E : XK}
  {x m : Str} {p pos apos : Pos} {e o : Expr} {es : List Expr} {ta : TE} {t : TA}
theorem runG_fn {pins : List (Addr × Obj)} {σ : St} {H : Hp} {s : Shared} {Q : VK} {us : List Value} {vs : List V} (hgd : X.A.guards = some [])
      (F : FnOkG X.prog X.w X.K X.mg X.base CX k f fd ps sp) (hr : Room k X.A) (hb : Binds X.K fd ps ds) (hd : Vals dvs ds) (hx : Passes CX X E)
    (I : Inv X pins σ H s) (r : Vals vs us) (h : sp (vs ++ dvs) H Q E) : wpAny (model X.prog X.w) X.A (call (.ref f) us)
          (EP X pins σ Q) X.xe s := by
  have r2 : Vals (vs ++ dvs) (us ++ ds) := r.append hd
  have hl : (us ++ ds).length = ps.length := by rw [← r2.length]; exact F.len _ _ _ _ h
  refine wpAny_call (codeAny_mono (F.run X.A X.stack s H ⟨us, []⟩ (us ++ ds) (vs ++ dvs) Q E hgd hr I.env0 (hb s us I.kIn hl) r2 h) fun r s' hq => ?_)
  cases r with
  | error e => exact hx pins σ H s e s' I hq
  | ok fl =>
    cases fl with
    | ret u => exact I.after hq
    | next => exact False.elim hq
    | brk => exact False.elim hq
    | cont => exact False.elim hq

theorem peG_call (hgd : X.A.guards = some []) (F : FnOkG X.prog X.w X.K X.mg X.base CX k f fd ps sp)
      (hr : Room k X.A) (hg : Gl X x) (hm : X.mg x = some (.ref f)) (hk : PySem.W.keepIn X.K (.ref f) = true) (hb : Binds X.K fd ps ds) (hd : Vals dvs ds) (hx : Passes CX X E)
    (ha : PA X (e :: es) t) (hdb : (x == ("__debug__" : Str)) = false := by decide)
          (he : starEach (e :: es) X.env = (false, eval e X.env) :: starEach es X.env := by rfl) (hpl : (backTo pos (starEach es X.env)).any (·.1) = false := by rfl) :
    PE X (.Call (.Name x p) (e :: es) [] pos) (tCall sp dvs E t) := by
  refine ⟨fun pins s σ H Q I h => ?_⟩
  refine wpAny_Call_Name_kw (ld_glob I hg hm ?_ hdb)
  refine PySem.W.callWith_K (h₀ := X.base) I.ok.mod.kin hk (thn (ha.run pos pins s σ H _ I h) fun us s1 ⟨vs, H1, I1, r, q⟩ => ⟨I1.kIn, ?_⟩) he hpl
  exact runG_fn hgd F hr hb hd hx I1 r q
end

/-- the promise of a def of the text, by its body; no display is under way -/
theorem Fun.okG {P : Program} {w : World} {K : PySem.W.Frag} {mg : Str → Option Value} {base : Heap} {x qual : Str} {st : Stmt} {f : Addr} {fd : FuncData}
    {N ps : List Str} {k : Nat} {sp : Sp} (F : Fun K x qual st f fd) (S : FnScope N ps (defScope st)) (len : ∀ vs H Q E, sp vs H Q E → vs.length = ps.length)
    (hb : ∀ (cdv : Value) (A : Around) (outer : List Env) (s : Shared) (H : Hp) (vs : List V) (Q : VK) (E : XK), A.guards = some [] →
      Room k (A.deeper (envOfC qual (defScope st) s.heap.objs.size f cdv)) → sp vs H Q E →
      ∃ t, PSs (cxOf CX0 P w K mg base N qual (defScope st) f cdv A outer s H E).nox (defBody st) t ∧ t { nx := fun _ H' => Q .non H', rt := Q } (start N vs) H) :
    FnOkG P w K mg base CX0 (k + 1) f fd ps sp := by
  obtain ⟨oc, od, kV, doc, pm, an, cdv, ct, osl, rfl, lk, hcd⟩ := F.ex
  refine fnG_of lk hcd S len fun A outer s H vs Q E hg hr hsp => ?_
  obtain ⟨t, h, q⟩ := hb cdv A outer s H vs Q E hg hr hsp
  exact ⟨t, h.nox, q⟩
/-- repr of data -/
def rReprD (K : PySem.W.Frag) : List V → Hp → VK → Prop := fun xs H Q => ∃ (x : V) (d : PyData), xs = [x] ∧ Dp K H x d ∧
  d.showable = true ∧ d.hasDict = false ∧ (∃ a, x = .ref a) ∧ d.depth ≤ 60 ∧ d.shown.length ≤ sizeLine ∧ Q (.str d.shown) H
theorem call_reprD {X : Cx} (hgd : X.A.guards = some []) (hu : X.A.units + 64 < cLine) : CallR X (.builtin "repr") (rReprD X.K) := by
  intro pins s σ H xs us Q I r h
  obtain ⟨x, d, rfl, hd, hs, hn, ⟨a, rfl⟩, hdp, hz, q⟩ := h
  cases r with
  | cons rv rt =>
    cases rt
    cases (show _ = Value.ref a from rv)
    obtain ⟨as, rd⟩ := Dp.reads I d _ _ hd rfl
    exact repr_of_reads' rd hs (fun z => by rw [hn] at z; cases z) hgd (by omega) (fun _ _ e => e) (fun h' u tk hk => ⟨.str d.shown, H, I.kept hk, ⟨_, rfl⟩, q⟩) hz
end L2

set_option Elab.async false
set_option linter.all false
set_option maxRecDepth 100000
namespace Gm
open PySem L2

/-! ### data, for == and repr -/
structure DatR {α : Type} (A : Rep α) (D : α → PyData) : Prop where
  dp : ∀ K H v a, A.r H v a → Dp K H v (D a)
section
variable {α β γ δ : Type} {A : Rep α} {B : Rep β} {C : Rep γ} {E : Rep δ} {D : α → PyData} {D2 : β → PyData} {D3 : γ → PyData} {D4 : δ → PyData}
theorem dI : DatR jI PyData.int := ⟨fun _ _ v a h => by rw [show v = V.int a from h]; exact .int a⟩
theorem dB : DatR jB PyData.bool := ⟨fun _ _ v a h => by rw [show v = V.bl a from h]; exact .bl a⟩
theorem dS : DatR jS PyData.str := ⟨fun _ _ v a h => by rw [show v = V.str a from h]; exact .str a⟩
def dOf (D : α → PyData) : Option α → PyData
  | none => .none
  | some a => D a
theorem dO (h : DatR A D) : DatR (jO A) (dOf D) := ⟨fun K H v a hv => by
  rcases hv with ⟨e1, e2⟩ | ⟨a', e1, _, e3⟩
  · rw [e1, e2]; exact .non
  · rw [e1]; exact h.dp _ _ _ _ e3⟩
theorem dp_all (h : DatR A D) {K : PySem.W.Frag} {H : Hp} : ∀ {vs : List V} {as : List α}, All2 A H vs as → DpAll K H vs (as.map D)
  | [], [], _ => .nil
  | _ :: _, _ :: _, q => .cons (h.dp _ _ _ _ q.1) (dp_all h q.2)
  | [], _ :: _, q => q.elim
  | _ :: _, [], q => q.elim
theorem dL (h : DatR A D) : DatR (jL A) (fun l => .list (l.map D)) := ⟨fun K H v a ⟨p, xs, e, h1, _, h2⟩ => by rw [e]; exact .lst (SqL.of h1) (dp_all h h2)⟩
theorem dT (h : DatR A D) : DatR (jT A) (fun l => .tuple (l.map D)) := ⟨fun K H v a ⟨p, xs, e, h1, _, h2⟩ => by rw [e]; exact .tup (SqT.of h1) (dp_all h h2)⟩
theorem dT2 (h : DatR A D) (h2 : DatR B D2) : DatR (jT2 A B) (fun t => .tuple [D t.1, D2 t.2]) := ⟨fun K H v a ⟨p, x, y, e, q, r1, r2⟩ => by rw [e]; exact .tup (SqT.of q) (.cons (h.dp _ _ _ _ r1) (.cons (h2.dp _ _ _ _ r2) .nil))⟩
theorem dT3 (h : DatR A D) (h2 : DatR B D2) (h3 : DatR C D3) : DatR (jT3 A B C) (fun t => .tuple [D t.1, D2 t.2.1, D3 t.2.2]) := ⟨fun K H v a ⟨p, x, y, z, e, q, r1, r2, r3⟩ => by rw [e]; exact .tup (SqT.of q) (.cons (h.dp _ _ _ _ r1) (.cons (h2.dp _ _ _ _ r2) (.cons (h3.dp _ _ _ _ r3) .nil)))⟩
theorem dT4 (h : DatR A D) (h2 : DatR B D2) (h3 : DatR C D3) (h4 : DatR E D4) : DatR (jT4 A B C E) (fun t => .tuple [D t.1, D2 t.2.1, D3 t.2.2.1, D4 t.2.2.2]) := ⟨fun K H v a ⟨p, x, y, z, u, e, q, r1, r2, r3, r4⟩ => by rw [e]; exact .tup (SqT.of q) (.cons (h.dp _ _ _ _ r1) (.cons (h2.dp _ _ _ _ r2) (.cons (h3.dp _ _ _ _ r3) (.cons (h4.dp _ _ _ _ r4) .nil))))⟩
end
/-- repr of any data -/
def rRepr (K : PySem.W.Frag) : List V → Hp → VK → Prop := fun xs H Q => ∃ (x : V) (d : PyData), xs = [x] ∧ Dp K H x d ∧ d.showable = true ∧ d.hasDict = false ∧ d.depth ≤ 60 ∧ d.shown.length ≤ sizeLine ∧ Q (.str d.shown) H
theorem call_reprA {X : Cx} (hgd : X.A.guards = some []) (hu : X.A.units + 64 < cLine) : CallR X (.builtin "repr") (rRepr X.K) := by
  intro pins s σ H xs us Q I r h
  obtain ⟨x, d, rfl, hd, hs, hn, hdp, hz, q⟩ := h
  cases hd with
  | lst a b => exact call_reprD hgd hu pins s σ H _ us Q I r ⟨_, _, rfl, .lst a b, hs, hn, ⟨_, rfl⟩, hdp, hz, q⟩
  | tup a b => exact call_reprD hgd hu pins s σ H _ us Q I r ⟨_, _, rfl, .tup a b, hs, hn, ⟨_, rfl⟩, hdp, hz, q⟩
  | non =>
    cases r with
    | cons rv rt =>
      cases rt
      cases (show _ = Value.none from rv)
      exact PySem.P.repr_of_none ⟨.str _, H, I.tok _, ⟨_, rfl⟩, q⟩
  | bl b =>
    cases r with
    | cons rv rt =>
      cases rt
      cases (show _ = Value.bool b from rv)
      exact PySem.P.repr_of_bool ⟨.str _, H, I.tok _, ⟨_, rfl⟩, q⟩
  | int i =>
    cases r with
    | cons rv rt =>
      cases rt
      obtain ⟨t, e⟩ := (show ∃ t, _ = Value.int i t from rv)
      subst e
      exact PySem.P.repr_of_int (by simpa [PyData.showable] using hs) ⟨.str _, H, I.tok _, ⟨_, rfl⟩, q⟩
  | str x =>
    cases r with
    | cons rv rt =>
      cases rt
      obtain ⟨t, e⟩ := (show ∃ t, _ = Value.str x t from rv)
      subst e
      exact PySem.P.repr_of_str ⟨.str _, H, I.tok _, ⟨_, rfl⟩, q⟩ hz
/-- what repr can show in one line -/
structure ShowOk (d : PyData) : Prop where
  sh : d.showable = true
  nd : d.hasDict = false
  dp : d.depth ≤ 60
  ln : d.shown.length ≤ sizeLine
section
variable {α β γ δ τ : Type} {X : Cx} {m : Am} {d d1 d2 d3 : Nat} {B : Wd} {Γ Γ' : Env} {e a b : Expr} {A : Rep α} {C : Rep γ} {A2 : Rep β} {P P' : γ → Prop} {pos p' : Pos} {K : Kn α} {rest body els sts : List Stmt} {st : Stmt} {D : α → PyData} {D2 : β → PyData}
theorem cv_repr {K : PySem.W.Frag} (h : DatR A D) : CaV1 m (rRepr K) A jS (fun a => ShowOk (D a)) (fun a c => c = (D a).shown) := fun _ W x a g r s Q q =>
  ⟨x, D a, rfl, h.dp _ _ _ _ (A.mono (fun a o z => g.sub a o z) r), s.sh, s.nd, s.dp, s.ln, q _ _ W rfl (Le.refl g) rfl⟩
theorem ge_repr {x : α} {q1 : Pos} (h : DatR A D) (hgd : X.A.guards = some []) {k : Nat} (hr : Room k X.A) (hm : X.mg "repr" = none) (ha : GE X m d e Γ A (fun z => z = x) d1) (hs : ShowOk (D x))
    (hg : Gl X "repr" := by rfl) (he : starEach [e] X.env = (false, eval e X.env) :: starEach [] X.env := by rfl) : GE X m d (.Call (.Name "repr" q1) [e] [] pos) Γ jS (fun z => z = (D x).shown) d1 :=
  (ge_b1 (id' := "repr") (id := "repr") (call_reprA hgd hr.units) (cv_repr h) hm ha (fun _ e => e ▸ hs) hg (by decide +kernel) (by decide) (by decide) he).imp fun z ⟨_, e1, e2⟩ => by rw [e2, e1]
/-- == and != of data -/
theorem ov_eqD {K : PySem.W.Frag} (h1 : DatR A D) (h2 : DatR A2 D2) : OpV m (rEqD K) A A2 jB (fun x y => SeqAt.shaped (D x) = true ∧ SeqAt.shaped (D2 y) = true) (fun x y c => c = PyData.eqv (D x) (D2 y)) := fun _ W u v x y g rx ry hs Q q =>
  ⟨D x, D2 y, h1.dp _ _ _ _ (A.mono (fun a o z => g.sub a o z) rx), h2.dp _ _ _ _ (A2.mono (fun a o z => g.sub a o z) ry), hs.1, hs.2, q _ _ W rfl (Le.refl g) rfl⟩
theorem ov_neD {K : PySem.W.Frag} (h1 : DatR A D) (h2 : DatR A2 D2) : OpV m (rNeD K) A A2 jB (fun x y => SeqAt.shaped (D x) = true ∧ SeqAt.shaped (D2 y) = true) (fun x y c => c = !PyData.eqv (D x) (D2 y)) := fun _ W u v x y g rx ry hs Q q =>
  ⟨D x, D2 y, h1.dp _ _ _ _ (A.mono (fun a o z => g.sub a o z) rx), h2.dp _ _ _ _ (A2.mono (fun a o z => g.sub a o z) ry), hs.1, hs.2, q _ _ W rfl (Le.refl g) rfl⟩

/-! ### defs that draw from the state -/
def kLarge : Key := Sum.inr "large"
def kCells : Key := Sum.inr "cells"
def kRest : Key := Sum.inr "rest"
def kTurn : Key := Sum.inr "turn"
def stD (L Cc : Addr) (r t : Int) : List (Key × V) := [(kLarge, .ref L), (kCells, .ref Cc), (kRest, .int r), (kTurn, .int t)]
theorem k_lc : ¬ kLarge = kCells := by decide +kernel
theorem k_lr : ¬ kLarge = kRest := by decide +kernel
theorem k_lt : ¬ kLarge = kTurn := by decide +kernel
theorem k_cr : ¬ kCells = kRest := by decide +kernel
theorem k_ct : ¬ kCells = kTurn := by decide +kernel
theorem k_rt : ¬ kRest = kTurn := by decide +kernel
theorem k_tr : ¬ kTurn = kRest := by decide +kernel
theorem k_cl : ¬ kCells = kLarge := by decide +kernel
theorem k_rl : ¬ kRest = kLarge := by decide +kernel
theorem k_tl : ¬ kTurn = kLarge := by decide +kernel
theorem stD_large (L Cc : Addr) (r t : Int) : valV (stD L Cc r t) kLarge = some (.ref L) := by unfold stD; exact valV_pos rfl
theorem stD_cells (L Cc : Addr) (r t : Int) : valV (stD L Cc r t) kCells = some (.ref Cc) := by unfold stD; rw [valV_neg k_lc]; exact valV_pos rfl
theorem stD_rest (L Cc : Addr) (r t : Int) : valV (stD L Cc r t) kRest = some (.int r) := by unfold stD; rw [valV_neg k_lr, valV_neg k_cr]; exact valV_pos rfl
theorem stD_turn (L Cc : Addr) (r t : Int) : valV (stD L Cc r t) kTurn = some (.int t) := by unfold stD; rw [valV_neg k_lt, valV_neg k_ct, valV_neg k_rt]; exact valV_pos rfl
theorem stD_putRest (L Cc : Addr) (r t z : Int) : putK (stD L Cc r t) kRest (.int z) = stD L Cc z t := by
  unfold putK
  rw [valV_any, stD_rest]
  simp [stD, k_lr, k_cr, k_tr]
theorem stD_putTurn (L Cc : Addr) (r t z : Int) : putK (stD L Cc r t) kTurn (.int z) = stD L Cc r z := by
  unfold putK
  rw [valV_any, stD_turn]
  simp [stD, k_lt, k_ct, k_rt]
theorem dget_large {H : Hp} {p L Cc : Addr} {r t : Int} (e : H p = some (.dK (stD L Cc r t))) : DGet H p (.str "large") (some (.ref L)) := by
  have h := DGet.k (k := kLarge) e
  rw [stD_large] at h; exact h
theorem dget_cells {H : Hp} {p L Cc : Addr} {r t : Int} (e : H p = some (.dK (stD L Cc r t))) : DGet H p (.str "cells") (some (.ref Cc)) := by
  have h := DGet.k (k := kCells) e
  rw [stD_cells] at h; exact h
theorem dget_rest {H : Hp} {p L Cc : Addr} {r t : Int} (e : H p = some (.dK (stD L Cc r t))) : DGet H p (.str "rest") (some (.int r)) := by
  have h := DGet.k (k := kRest) e
  rw [stD_rest] at h; exact h
theorem dget_turn {H : Hp} {p L Cc : Addr} {r t : Int} (e : H p = some (.dK (stD L Cc r t))) : DGet H p (.str "turn") (some (.int t)) := by
  have h := DGet.k (k := kTurn) e
  rw [stD_turn] at h; exact h
theorem dput_rest {H : Hp} {p L Cc : Addr} {r t z : Int} (e : H p = some (.dK (stD L Cc r t))) : DPut H p (.str "rest") (.int z) (upd H p (.dK (stD L Cc z t))) := by
  have h := DPut.k (k := kRest) (v := .int z) e (by show 4 < sizeLine; decide)
  rw [stD_putRest] at h; exact h
theorem dput_turn {H : Hp} {p L Cc : Addr} {r t z : Int} (e : H p = some (.dK (stD L Cc r t))) : DPut H p (.str "turn") (.int z) (upd H p (.dK (stD L Cc r z))) := by
  have h := DPut.k (k := kTurn) (v := .int z) e (by show 4 < sizeLine; decide)
  rw [stD_putTurn] at h; exact h
theorem ints_get {xs : List Int} {i : Nat} {x : V} (h : (xs.map V.int)[i]? = some x) : ∃ z, x = V.int z ∧ z ∈ xs := by
  rw [List.getElem?_map] at h
  cases e : xs[i]? with
  | none => rw [e] at h; cases h
  | some z => rw [e] at h; exact ⟨z, (Option.some.inj h).symm, List.mem_of_getElem? e⟩
theorem dpAll_ints {K : PySem.W.Frag} {H : Hp} : ∀ ns : List Int, DpAll K H (ns.map V.int) (ns.map PyData.int)
  | [] => .nil
  | n :: ns => .cons (.int n) (dpAll_ints ns)
theorem shaped_ints : ∀ ns : List Int, SeqAt.shaped (.list (ns.map PyData.int)) = true := fun ns => by
  have h1 : ∀ ns : List Int, PyData.canLayAll0 (ns.map PyData.int) = true := by
    intro ns
    induction ns with
    | nil => simp [PyData.canLayAll0]
    | cons n ns ih => simp [PyData.canLayAll0, PyData.canLay0, ih]
  have h2 : ∀ ns : List Int, PyData.depthAll (ns.map PyData.int) ≤ 1 := by
    intro ns
    induction ns with
    | nil => simp [PyData.depthAll]
    | cons n ns ih => simp only [List.map_cons, PyData.depthAll, PyData.depth]; omega
  show (PyData.canLay0 (.list (ns.map PyData.int)) && decide (PyData.depth (.list (ns.map PyData.int)) ≤ 64)) = true
  rw [Bool.and_eq_true]
  refine ⟨by simp only [PyData.canLay0]; exact h1 ns, decide_eq_true ?_⟩
  have := h2 ns
  simp only [PyData.depth]
  omega
theorem eqv_ints_nil (ns : List Int) : PyData.eqv (.list (ns.map PyData.int)) (.list []) = ns.isEmpty := by
  cases ns <;> simp [PyData.eqv, PyData.eqvAll]
structure Draw (p L Cc : Addr) (d : Nat) (H : Hp) : Prop where
  ex : ∃ (ls cs : List Int) (r t : Int), H p = some (.dK (stD L Cc r t)) ∧ H L = some (.lst (ls.map V.int)) ∧ ls.length ≤ 100 ∧ H Cc = some (.lst (cs.map V.int)) ∧ cs.length ≤ 100 ∧ 0 ≤ t ∧ t ≤ d
/-- the state at p, its lists at L and Cc -/
def dm (p L Cc : Addr) : Am where
  F := fun a => a = p ∨ a = L ∨ a = Cc
  R := Draw p L Cc
  up := fun h ⟨ls, cs, r, t, a1, a2, a3, a4, a5, a6, a7⟩ => ⟨ls, cs, r, t, a1, a2, a3, a4, a5, a6, by omega⟩
  stab := fun h ⟨ls, cs, r, t, a1, a2, a3, a4, a5, a6, a7⟩ => ⟨ls, cs, r, t, h _ _ (.inl rfl) a1, h _ _ (.inr (.inl rfl)) a2, a3, h _ _ (.inr (.inr rfl)) a4, a5, a6, a7⟩
  dom := fun ⟨ls, cs, r, t, a1, a2, a3, a4, a5, a6, a7⟩ h => by
    rcases h with h | h | h <;> subst h
    · exact ⟨_, a1⟩
    · exact ⟨_, a2⟩
    · exact ⟨_, a4⟩
def lim : Nat := 2 ^ 40
structure CtrS (τ α : Type) where
  ra : ARep τ
  pre : τ → Prop
  R : Rep α
  post : τ → α → Prop
  cost : τ → Nat
/-- a def that draws: f(state, ..) -/
def spS (c : CtrS τ α) : Sp := fun vs H Q _ => ∃ (p L Cc : Addr) (n : Nat) (S : Hp) (t : τ) (rest : List V), vs = .ref p :: rest ∧ Good (dm p L Cc) n ⟨S, H⟩ ∧ c.ra.r S rest t ∧ c.pre t ∧ n + c.cost t ≤ lim ∧
  ∀ v a S' H', c.post t a → Le (dm p L Cc) (n + c.cost t) ⟨S, H⟩ ⟨S', H'⟩ → c.R.r S' v a → Q v H'
theorem ge_st {c : CtrS τ α} {p L Cc : Addr} {x : Str} {q1 : Pos} {es : List Expr} {k k0 n : Nat} {ps : List Str} {P : τ → Prop} {CX : CXT} {E : XK} (F : FnAt X.prog X.w X.K X.mg X.base CX k x ps (spS c)) (hr : Room k0 X.A) (hk : k ≤ k0) (hx : Passes CX X E)
    (h0 : GE X (dm p L Cc) d e Γ jV (fun z => z = .ref p) d) (ha : GA X (dm p L Cc) d es Γ c.ra P d1) (hp : ∀ t, P t → c.pre t ∧ c.cost t ≤ n) (hd : d1 + n ≤ lim)
    (hg : Gl X x := by rfl) (hdb : (x == ("__debug__" : Str)) = false := by decide) (he : starEach (e :: es) X.env = (false, eval e X.env) :: starEach es X.env := by rfl) (hpl : (backTo pos (starEach es X.env)).any (·.1) = false := by rfl) :
    GE X (dm p L Cc) d (.Call (.Name x q1) (e :: es) [] pos) Γ c.R (fun a => ∃ t, P t ∧ c.post t a) (d1 + n) := by
  obtain ⟨f, fd, hm, hk', hb, F⟩ := F.ex
  refine ge_of (pe_call F (hr.mono hk) hg hm hk' hb .nil hx (pa_cons pe_w pa_w he) hdb he hpl) fun σ W g eo Q q => h0 σ W g eo _ fun v0 z W0 e0 l0 r0 => ha σ W0 l0.good (eo.mono l0) _ fun vs t W1 p1 l1 r1 => ?_
  have e0' : v0 = .ref p := (show v0 = z from r0).trans e0
  subst e0'
  obtain ⟨h1, h2⟩ := hp t p1
  exact ⟨p, L, Cc, d1, W1.S, t, vs, by rw [List.append_nil], l1.good, r1, h1, by omega, fun v a S' H' pa l ra => q v a ⟨S', H'⟩ ⟨t, p1, pa⟩ ((l0.trans l1).trans (l.up (Nat.add_le_add_left h2 d1))) ra⟩
section
variable {Pg : Program} {w : World} {Kf' : PySem.W.Frag} {mg : Str → Option Value} {base : Heap}
theorem fn_okS {c : CtrS τ α} {x qual : Str} {stt : Stmt} {f : Addr} {fd : FuncData} {N ps : List Str} {k n : Nat} {G : τ → Env} (F : Fun Kf' x qual stt f fd) (S : FnScope N ps (defScope stt)) (ae : AEnv c.ra n G) (hn : n + 1 = ps.length)
    (hb : ∀ (cdv : Value) (A : Around) (outer : List PySem.Env) (s : Shared) (H : Hp) (E : XK) (B : Wd) (p L Cc : Addr) (d0 : Nat) (t : τ), Room k (A.deeper (PyProof.Rows.envOfC qual (defScope stt) s.heap.objs.size f cdv)) → c.pre t → d0 + c.cost t ≤ lim →
      GS (cxOf CX0 Pg w Kf' mg base N qual (defScope stt) f cdv A outer s H E).nox (dm p L Cc) d0 B (defBody stt) (some (.pv jV (.ref p)) :: (G t ++ List.replicate (N.length - (n + 1)) none)) (Kf c.R (c.post t) (d0 + c.cost t))) : FnOk Pg w Kf' mg base CX0 (k + 1) f fd ps (spS c) := by
  have hnN : n + 1 ≤ N.length := by
    have := congrArg List.length S.pre
    rw [List.length_take] at this
    omega
  have ae' := ae_cons (A := jV) ae
  refine F.ok S (fun vs H Q E h => ?_) (fun cdv A outer s H vs Q E hr h => ?_)
  · obtain ⟨p, L, Cc, d0, S', t, rest, e, _, hra, _⟩ := h
    rw [e, List.length_cons, ae.len _ _ _ hra, hn]
  · obtain ⟨p, L, Cc, d0, S', t, rest, e, g, hra, hpre, hl, k'⟩ := h
    subst e
    have hra' : (aC jV c.ra).r S' (.ref p :: rest) (.ref p, t) := ⟨_, _, rfl, rfl, hra⟩
    refine ⟨wS _ (defBody stt), pss_w, ?_⟩
    refine hb cdv A outer s H E ⟨S', H⟩ p L Cc d0 t hr hpre hl (ae'.own (S := S') (vs := _) (t := (.ref p, t)) hra') _ ⟨S', H⟩ (Le.refl g) (ae'.start (W := ⟨S', H⟩) (t := (.ref p, t)) hra' hnN) _ ⟨?_, ?_, ?_, ?_⟩
    · rintro d Γ σ W ⟨hd, a, pa, ra⟩ l _ _ _
      exact k' .non a W.S W.H pa (l.up hd) (ra W.S)
    · exact fun v a W pa l ra => k' v a W.S W.H pa l ra
    · exact fun _ _ _ _ h => h.elim
    · exact fun _ _ _ _ h => h.elim
end
end
end Gm

set_option Elab.async false
set_option linter.all false
set_option maxRecDepth 100000
namespace Gm
open PySem L2
section
variable {α β γ δ τ : Type} {X : Cx} {m : Am} {d d1 d2 d3 : Nat} {B : Wd} {Γ Γ' : Env} {e a b : Expr} {A : Rep α} {C : Rep γ} {A2 : Rep β} {P P' : γ → Prop} {pos p' : Pos} {K : Kn α} {rest body els sts : List Stmt} {st : Stmt}
theorem ge_lenL {P1 : List γ → Prop} {q1 : Pos} (hm : X.mg "len" = none) (ha : GE X m d e Γ (jL C) P1 d1) (hg : Gl X "len" := by rfl) (he : starEach [e] X.env = (false, eval e X.env) :: starEach [] X.env := by rfl) : GE X m d (.Call (.Name "len" q1) [e] [] pos) Γ jI (fun z => ∃ l, P1 l ∧ z = (l.length : Int)) d1 :=
  ge_b1 (id' := "len") (id := "len") call_len_seq cv_lenL hm ha (fun _ _ => trivial) hg PySem.boot_len (by decide) (by decide) he
theorem ge_lenT {P1 : List γ → Prop} {q1 : Pos} (hm : X.mg "len" = none) (ha : GE X m d e Γ (jT C) P1 d1) (hg : Gl X "len" := by rfl) (he : starEach [e] X.env = (false, eval e X.env) :: starEach [] X.env := by rfl) : GE X m d (.Call (.Name "len" q1) [e] [] pos) Γ jI (fun z => ∃ l, P1 l ∧ z = (l.length : Int)) d1 :=
  ge_b1 (id' := "len") (id := "len") call_len_seq cv_lenT hm ha (fun _ _ => trivial) hg PySem.boot_len (by decide) (by decide) he
theorem ge_lenLF {l : List γ} {q1 : Pos} (hm : X.mg "len" = none) (ha : GE X m d e Γ (jL C) (fun z => z = l) d1) (hg : Gl X "len" := by rfl) (he : starEach [e] X.env = (false, eval e X.env) :: starEach [] X.env := by rfl) : GE X m d (.Call (.Name "len" q1) [e] [] pos) Γ jI (fun z => z = (l.length : Int)) d1 :=
  (ge_lenL hm ha hg he).imp fun z ⟨_, e1, e2⟩ => by rw [e2, e1]
theorem ge_lenTF {l : List γ} {q1 : Pos} (hm : X.mg "len" = none) (ha : GE X m d e Γ (jT C) (fun z => z = l) d1) (hg : Gl X "len" := by rfl) (he : starEach [e] X.env = (false, eval e X.env) :: starEach [] X.env := by rfl) : GE X m d (.Call (.Name "len" q1) [e] [] pos) Γ jI (fun z => z = (l.length : Int)) d1 :=
  (ge_lenT hm ha hg he).imp fun z ⟨_, e1, e2⟩ => by rw [e2, e1]
theorem ge_sum {l : List Int} {q1 : Pos} (hc : X.calm = true) (hm : X.mg "sum" = none) (ha : GE X m d e Γ (jL jI) (fun z => z = l) d1) (hg : Gl X "sum" := by rfl) (he : starEach [e] X.env = (false, eval e X.env) :: starEach [] X.env := by rfl) : GE X m d (.Call (.Name "sum" q1) [e] [] pos) Γ jI (fun z => z = l.sum) d1 :=
  (ge_b1 (id' := "sum") (id := "sum") (cr_sum hc) cv_sum hm ha (fun _ _ => trivial) hg (by decide +kernel) (by decide) (by decide) he).imp fun z ⟨_, e1, e2⟩ => by rw [e2, e1]
theorem ge_all {l : List Bool} {q1 : Pos} (hc : X.calm = true) (hm : X.mg "all" = none) (ha : GE X m d e Γ (jL jB) (fun z => z = l) d1) (hg : Gl X "all" := by rfl) (he : starEach [e] X.env = (false, eval e X.env) :: starEach [] X.env := by rfl) : GE X m d (.Call (.Name "all" q1) [e] [] pos) Γ jB (fun z => z = l.all id) d1 :=
  (ge_b1 (id' := "all") (id := "all") (cr_all hc) cv_all hm ha (fun _ _ => trivial) hg (by decide +kernel) (by decide) (by decide) he).imp fun z ⟨_, e1, e2⟩ => by rw [e2, e1]
theorem ge_list {l : List γ} {q1 : Pos} (hm : X.mg "list" = none) (ha : GE X m d e Γ (jL C) (fun z => z = l) d1) (hg : Gl X "list" := by rfl) (he : starEach [e] X.env = (false, eval e X.env) :: starEach [] X.env := by rfl) : GE X m d (.Call (.Name "list" q1) [e] [] pos) Γ (jL C) (fun z => z = l) d1 :=
  (ge_ty1 (id' := "list") call_list_of cv_list hm ha (fun _ _ => trivial) hg (by decide +kernel) (by decide) (by decide) he).imp fun z ⟨_, e1, e2⟩ => by rw [e2, e1]
theorem ge_intI {i : Int} {q1 : Pos} (hm : X.mg "int" = none) (ha : GE X m d e Γ jI (fun z => z = i) d1) (hg : Gl X "int" := by rfl) (he : starEach [e] X.env = (false, eval e X.env) :: starEach [] X.env := by rfl) : GE X m d (.Call (.Name "int" q1) [e] [] pos) Γ jI (fun z => z = i) d1 :=
  (ge_ty1 (id' := "int") call_int1 cv_int hm ha (fun _ _ => trivial) hg (by decide +kernel) (by decide) (by decide) he).imp fun z ⟨_, e1, e2⟩ => by rw [e2, e1]
theorem ge_bpow {x y : Int} (ha : GE X m d a Γ jI (fun z => z = x) d1) (hb : GE X m d1 b Γ jI (fun z => z = y) d2) (hs : CPow x y) : GE X m d (.BinOp a .Pow b pos) Γ jI (fun z => z = x ^ y.toNat) d2 := ge_binF (x := x) (y := y) op_pow ov_CI ha hb hs
theorem gt_eqS {x y : Str} (ha : GE X m d a Γ jS (fun z => z = x) d1) (hb : GE X m d1 b Γ jS (fun z => z = y) d2) : GT X m d (.Compare a [.Eq] [b] pos) Γ (fun z => z = decide (x = y)) d2 := gt_cmpF (x := x) (y := y) op_eq ov_eqS ha hb trivial (nobehind _ (by decide) (by decide))
theorem gt_neS {x y : Str} (ha : GE X m d a Γ jS (fun z => z = x) d1) (hb : GE X m d1 b Γ jS (fun z => z = y) d2) : GT X m d (.Compare a [.NotEq] [b] pos) Γ (fun z => z = !decide (x = y)) d2 := gt_cmpF (x := x) (y := y) op_ne ov_neS ha hb trivial (nobehind _ (by decide) (by decide))
theorem ge_eqS {x y : Str} (ha : GE X m d a Γ jS (fun z => z = x) d1) (hb : GE X m d1 b Γ jS (fun z => z = y) d2) : GE X m d (.Compare a [.Eq] [b] pos) Γ jB (fun z => z = decide (x = y)) d2 := ge_cmpF (x := x) (y := y) op_eq ov_eqS ha hb trivial (nobehind _ (by decide) (by decide))
theorem gt_eqB {x y : Bool} (ha : GE X m d a Γ jB (fun z => z = x) d1) (hb : GE X m d1 b Γ jB (fun z => z = y) d2) : GT X m d (.Compare a [.Eq] [b] pos) Γ (fun z => z = decide (x = y)) d2 := gt_cmpF (x := x) (y := y) op_eq ov_eqB ha hb trivial (nobehind _ (by decide) (by decide))
theorem gt_isB {x y : Bool} (ha : GE X m d a Γ jB (fun z => z = x) d1) (hb : GE X m d1 b Γ jB (fun z => z = y) d2) : GT X m d (.Compare a [.Is] [b] pos) Γ (fun z => z = decide (x = y)) d2 := gt_cmpF (x := x) (y := y) op_isBl ov_isB ha hb trivial (nobehind _ (by decide) (by decide))
theorem ge_isB {x y : Bool} (ha : GE X m d a Γ jB (fun z => z = x) d1) (hb : GE X m d1 b Γ jB (fun z => z = y) d2) : GE X m d (.Compare a [.Is] [b] pos) Γ jB (fun z => z = decide (x = y)) d2 := ge_cmpF (x := x) (y := y) op_isBl ov_isB ha hb trivial (nobehind _ (by decide) (by decide))
theorem gt_isN {o : Option γ} {j : Nat} {q1 : Pos} (ha : GE X m d a Γ (jO C) (fun z => z = o) d1) : GT X m d (.Compare a [.Is] [.Constant .none j q1] pos) Γ (fun z => z = o.isNone) d1 := gt_cmpF (x := o) (y := ()) op_isN ov_isN ha ge_unit trivial (nobehind _ (by decide) (by decide))
theorem gt_notN {o : Option γ} {j : Nat} {q1 : Pos} (ha : GE X m d a Γ (jO C) (fun z => z = o) d1) : GT X m d (.Compare a [.IsNot] [.Constant .none j q1] pos) Γ (fun z => z = o.isSome) d1 := gt_cmpF (x := o) (y := ()) op_notN ov_notN ha ge_unit trivial (nobehind _ (by decide) (by decide))
theorem ge_isN {o : Option γ} {j : Nat} {q1 : Pos} (ha : GE X m d a Γ (jO C) (fun z => z = o) d1) : GE X m d (.Compare a [.Is] [.Constant .none j q1] pos) Γ jB (fun z => z = o.isNone) d1 := ge_cmpF (x := o) (y := ()) op_isN ov_isN ha ge_unit trivial (nobehind _ (by decide) (by decide))
theorem ge_notN {o : Option γ} {j : Nat} {q1 : Pos} (ha : GE X m d a Γ (jO C) (fun z => z = o) d1) : GE X m d (.Compare a [.IsNot] [.Constant .none j q1] pos) Γ jB (fun z => z = o.isSome) d1 := ge_cmpF (x := o) (y := ()) op_notN ov_notN ha ge_unit trivial (nobehind _ (by decide) (by decide))
/-- what is not None, where a value may be None -/
theorem GE.unopt {x : γ} (ha : GE X m d e Γ (jO C) (fun z => z = Option.some x) d1) : GE X m d e Γ C (fun z => z = x) d1 := fun σ W g eo Q q => ha σ W g eo Q fun v o W' p l r => by
  subst p
  rcases r with ⟨e1, _⟩ | ⟨a, e1, _, r⟩
  · cases e1
  · cases e1; exact q v x W' rfl l r
theorem jB_nn : ∀ H v a, jB.r H v a → v ≠ .non := fun _ _ _ h e => by rw [show _ = V.bl _ from h] at e; cases e
theorem jL_nn : ∀ H v a, (jL C).r H v a → v ≠ .non := fun _ _ _ ⟨_, _, e, _⟩ e' => by rw [e] at e'; cases e'
theorem jT2_nn : ∀ H v a, (jT2 A C).r H v a → v ≠ .non := fun _ _ _ ⟨_, _, _, e, _⟩ e' => by rw [e] at e'; cases e'
theorem jT3_nn : ∀ H v a, (jT3 A C A2).r H v a → v ≠ .non := fun _ _ _ ⟨_, _, _, _, e, _⟩ e' => by rw [e] at e'; cases e'

theorem ge_gintX {x : Str} {i : Int} (hg : Gl X x) (h : ∃ u, X.mg x = some u ∧ RelV (.int i) u) (hd : (x == ("__debug__" : Str)) = false := by decide) : GE X m d (.Name x pos) Γ jI (fun z => z = i) d := h.elim fun _ h => ge_gint hg h.1 h.2 hd
theorem ge_gstrX {x : Str} {i : Str} (hg : Gl X x) (h : ∃ u, X.mg x = some u ∧ RelV (.str i) u) (hd : (x == ("__debug__" : Str)) = false := by decide) : GE X m d (.Name x pos) Γ jS (fun z => z = i) d := h.elim fun _ h => ge_gstr hg h.1 h.2 hd
/-! ### isinstance -/
/-- what kind of thing values of a rep are, and the answer for a class -/
def IsiV (K : PySem.W.Frag) (A : Rep α) (c : V) (b : Bool) : Prop := ∀ S v a, A.r S v a → ∃ t u, ClsV c u ∧ (∀ H, (∀ x o, S x = some o → H x = some o) → TyX K H v t) ∧ PySem.W.kitOne K t u = some b
theorem ge_isi {c : Expr} {cv : V} {r : Bool} {x : α} {q1 : Pos} (h : IsiV X.K A cv r) (hm : X.mg "isinstance" = none) (ha : GE X m d a Γ A (fun z => z = x) d1) (hc : PE X c (tC cv)) (hg : Gl X "isinstance" := by rfl)
    (he : starEach [a, c] X.env = (false, eval a X.env) :: starEach [c] X.env := by rfl) (hpl : (backTo pos (starEach [c] X.env)).any (·.1) = false := by rfl) (hst2 : starEach [c] X.env = (false, eval c X.env) :: starEach [] X.env := by rfl) :
    GE X m d (.Call (.Name "isinstance" q1) [a, c] [] pos) Γ jB (fun z => z = r) d1 :=
  ge_of (pe_callB call_isi hg hm (by decide +kernel) (pa_cons pe_w (pa_cons hc pa_nil hst2) he) (by decide) (by decide) he hpl) fun σ W g eo Q q => ha σ W g eo _ fun v y W1 p1 l1 r1 => by
    obtain ⟨t, u, h1, h2, h3⟩ := h _ _ _ r1
    exact ⟨v, cv, t, u, r, rfl, h1, h2 _ l1.good.sub, h3, q _ r W1 rfl l1 rfl⟩
theorem pe_cls {x : Str} {n : String} {pos : Pos} (hm : X.mg x = none) (hv : bootBuiltins x = some (.type n)) (hg : Gl X x := by rfl) (hn : x ≠ "__name__" := by decide) (hd : (x == ("__debug__" : Str)) = false := by decide) : PE X (.Name x pos) (tC (.ty n)) := pe_bltn hg hm hv rfl hn hd
theorem isi_I_int {K : PySem.W.Frag} : IsiV K jI (.ty "int") true := fun S v a h => ⟨.type "int", .type "int", .ty _, fun H _ => by rw [show v = V.int a from h]; exact .base (.int a), kit_ty (by decide +kernel)⟩
theorem isi_I_bool {K : PySem.W.Frag} : IsiV K jI (.ty "bool") false := fun S v a h => ⟨.type "int", .type "bool", .ty _, fun H _ => by rw [show v = V.int a from h]; exact .base (.int a), kit_ty (by decide +kernel)⟩
theorem isi_B_bool {K : PySem.W.Frag} : IsiV K jB (.ty "bool") true := fun S v a h => ⟨.type "bool", .type "bool", .ty _, fun H _ => by rw [show v = V.bl a from h]; exact .base (.bl a), kit_ty (by decide +kernel)⟩
theorem isi_S_str {K : PySem.W.Frag} : IsiV K jS (.ty "str") true := fun S v a h => ⟨.type "str", .type "str", .ty _, fun H _ => by rw [show v = V.str a from h]; exact .base (.str a), kit_ty (by decide +kernel)⟩
theorem isi_T2_tuple {K : PySem.W.Frag} : IsiV K (jT2 A C) (.ty "tuple") true := fun S v a ⟨p, x, y, e, h, _⟩ => ⟨.type "tuple", .type "tuple", .ty _, fun H s => by rw [e]; exact .base (.tup (s _ _ h)), kit_ty (by decide +kernel)⟩

/-! ### comprehensions by functions -/
theorem ge_lcM {elt tg iter : Expr} {scope : Scope} {own : List (Str × Nat)} {l : List γ} {D : Rep δ} {Γ2 : γ → Env} {f : γ → δ} (hc : X.calm = true) (hN : X.N.Nodup) (ok : BlkOk X.N X.env.scope scope own)
    (hi : GI X m d tg iter Γ C (fun l' => l' = l ∧ l'.length ≤ sizeLine) d1) (hg : ∀ s H Cd cl fp x, GB (BlkE X scope s H Cd cl fp) m tg (wipeE Γ (own.map (·.2))) C x (Γ2 x) (own.map (·.2)))
    (he : ∀ s H Cd cl fp x n, x ∈ l → GE (BlkE X scope s H Cd cl fp) m n elt (Γ2 x) D (fun z => z = f x) n) (hs : ∀ x, foldedSetIterable iter X.env x = pure x := by intro _; rfl) :
    GE X m d (.ListComp elt [⟨tg, iter, [], 0⟩] scope pos) Γ (jL D) (fun ys => ys = l.map f) d1 :=
  (ge_lc hc hN ok (lc_0 0 d1 hi (fun _ h => h.2) (fun _ _ => by omega) hg (fun s H Cd cl fp l' x n hl hx _ => he s H Cd cl fp x n (hl.1 ▸ hx))) hs).imp fun ys ⟨l', h1, h2⟩ => by rw [← h1.1]; exact h2.map
theorem ge_lcF {elt tg iter c0 : Expr} {scope : Scope} {own : List (Str × Nat)} {l : List γ} {D : Rep δ} {Γ2 : γ → Env} {f : γ → δ} {p : γ → Bool} (hc : X.calm = true) (hN : X.N.Nodup) (ok : BlkOk X.N X.env.scope scope own)
    (hi : GI X m d tg iter Γ C (fun l' => l' = l ∧ l'.length ≤ sizeLine) d1) (hg : ∀ s H Cd cl fp x, GB (BlkE X scope s H Cd cl fp) m tg (wipeE Γ (own.map (·.2))) C x (Γ2 x) (own.map (·.2)))
    (ht : ∀ s H Cd cl fp x n, x ∈ l → GT (BlkE X scope s H Cd cl fp) m n c0 (Γ2 x) (fun z => z = p x) n)
    (he : ∀ s H Cd cl fp x n, x ∈ l → p x = true → GE (BlkE X scope s H Cd cl fp) m n elt (Γ2 x) D (fun z => z = f x) n) (hs : ∀ x, foldedSetIterable iter X.env x = pure x := by intro _; rfl) :
    GE X m d (.ListComp elt [⟨tg, iter, [c0], 0⟩] scope pos) Γ (jL D) (fun ys => ys = (l.filter p).map f) d1 :=
  (ge_lc hc hN ok (lc_1 0 d1 hi (fun _ h => h.2) (fun _ _ => by omega) hg (fun s H Cd cl fp l' x n hl hx => ht s H Cd cl fp x n (hl.1 ▸ hx)) (fun s H Cd cl fp l' x n hl hx hp _ => he s H Cd cl fp x n (hl.1 ▸ hx) hp.symm)) hs).imp fun ys ⟨l', h1, h2⟩ => by rw [← h1.1]; exact h2.fn
/-! ### lists put together -/
theorem ov_cat : OpV m rCat (jL C) (jL C) (jL C) (fun x y => x.length + y.length ≤ sizeLine) (fun x y z => z = x ++ y) := fun _ W u v x y g ⟨p, xs, e1, h1, z1, r1⟩ ⟨q, ys, e2, h2, z2, r2⟩ hs Q k =>
  ⟨p, q, xs, ys, e1, e2, g.sub _ _ h1, g.sub _ _ h2, by rw [r1.len, r2.len]; exact hs, fun t nt => by
    have l2 := g.lay (o := .lst (xs ++ ys)) nt
    exact k (.ref t) _ _ rfl l2 ⟨t, _, rfl, (by show upd W.S t _ t = _; rw [upd_same]), by rw [List.length_append, r1.len, r2.len]; exact hs, (r1.app r2).mono l2.ext⟩⟩
theorem ge_cat {P1 P2 : List γ → Prop} (ha : GE X m d a Γ (jL C) P1 d1) (hb : GE X m d1 b Γ (jL C) P2 d2) (hs : ∀ x y, P1 x → P2 y → x.length + y.length ≤ sizeLine) : GE X m d (.BinOp a .Add b pos) Γ (jL C) (fun z => ∃ x y, P1 x ∧ P2 y ∧ z = x ++ y) d2 := ge_bin op_cat ov_cat ha hb hs
theorem ge_catF {x y : List γ} (ha : GE X m d a Γ (jL C) (fun z => z = x) d1) (hb : GE X m d1 b Γ (jL C) (fun z => z = y) d2) (hs : x.length + y.length ≤ sizeLine) : GE X m d (.BinOp a .Add b pos) Γ (jL C) (fun z => z = x ++ y) d2 := ge_binF (x := x) (y := y) op_cat ov_cat ha hb hs
/-! ### sums and differences of what is drawn -/
theorem ge_addP {P1 P2 : Int → Prop} (ha : GE X m d a Γ jI P1 d1) (hb : GE X m d1 b Γ jI P2 d2) : GE X m d (.BinOp a .Add b pos) Γ jI (fun z => ∃ x y, P1 x ∧ P2 y ∧ z = x + y) d2 := ge_bin op_add ov_II ha hb fun _ _ _ _ => trivial
theorem ge_subP {P1 P2 : Int → Prop} (ha : GE X m d a Γ jI P1 d1) (hb : GE X m d1 b Γ jI P2 d2) : GE X m d (.BinOp a .Sub b pos) Γ jI (fun z => ∃ x y, P1 x ∧ P2 y ∧ z = x - y) d2 := ge_bin op_sub ov_II ha hb fun _ _ _ _ => trivial
theorem ge_eqP {P1 P2 : Int → Prop} (ha : GE X m d a Γ jI P1 d1) (hb : GE X m d1 b Γ jI P2 d2) : GE X m d (.Compare a [.Eq] [b] pos) Γ jB (fun z => ∃ x y, P1 x ∧ P2 y ∧ z = decide (x = y)) d2 := ge_cmp op_eq ov_eqI ha hb (fun _ _ _ _ => trivial) (nobehind _ (by decide) (by decide))
/-- a written tuple's length -/
def LenV (A : Rep α) (n : Nat) : Prop := ∀ S v a, A.r S v a → ∃ p xs, v = .ref p ∧ S p = some (.tup xs) ∧ xs.length = n
theorem lv2 : LenV (jT2 A C) 2 := fun S v a ⟨p, x, y, e, h, _⟩ => ⟨p, _, e, h, rfl⟩
theorem lv3 : LenV (jT3 A C A2) 3 := fun S v a ⟨p, x, y, z, e, h, _⟩ => ⟨p, _, e, h, rfl⟩
theorem ge_lenW {n : Nat} {P1 : α → Prop} {q1 : Pos} (h : LenV A n) (hm : X.mg "len" = none) (ha : GE X m d e Γ A P1 d1) (hg : Gl X "len" := by rfl) (he : starEach [e] X.env = (false, eval e X.env) :: starEach [] X.env := by rfl) : GE X m d (.Call (.Name "len" q1) [e] [] pos) Γ jI (fun z => z = (n : Int)) d1 :=
  ge_of (pe_callB call_len_seq hg hm PySem.boot_len (pa_cons pe_w pa_nil he) (by decide) (by decide) he) fun σ W g eo Q q => ha σ W g eo _ fun v y W1 p1 l1 r1 => by
    obtain ⟨p, xs, e1, h1, h2⟩ := h _ _ _ r1
    exact ⟨p, xs, by rw [e1], .inr (SqT.of (l1.good.sub _ _ h1)), q _ _ W1 (by rw [h2]) l1 rfl⟩
/-! ### calls where no display is under way -/
structure FnAtG (P : Program) (w : World) (K : PySem.W.Frag) (mg : Str → Option Value) (base : Heap) (CX : CXT) (k : Nat) (x : Str) (ps : List Str) (sp : Sp) : Prop where
  ex : ∃ (f : Addr) (fd : FuncData), mg x = some (.ref f) ∧ PySem.W.keepIn K (.ref f) = true ∧ Binds K fd ps [] ∧ FnOkG P w K mg base CX k f fd ps sp
theorem ge_stG {c : CtrS τ α} {p L Cc : Addr} {x : Str} {q1 : Pos} {es : List Expr} {k k0 n : Nat} {ps : List Str} {P : τ → Prop} {CX : CXT} {E : XK} (F : FnAtG X.prog X.w X.K X.mg X.base CX k x ps (spS c)) (hgd : X.A.guards = some []) (hr : Room k0 X.A) (hk : k ≤ k0) (hx : Passes CX X E)
    (h0 : GE X (dm p L Cc) d e Γ jV (fun z => z = .ref p) d) (ha : GA X (dm p L Cc) d es Γ c.ra P d1) (hp : ∀ t, P t → c.pre t ∧ c.cost t ≤ n) (hd : d1 + n ≤ lim)
    (hg : Gl X x := by rfl) (hdb : (x == ("__debug__" : Str)) = false := by decide) (he : starEach (e :: es) X.env = (false, eval e X.env) :: starEach es X.env := by rfl) (hpl : (backTo pos (starEach es X.env)).any (·.1) = false := by rfl) :
    GE X (dm p L Cc) d (.Call (.Name x q1) (e :: es) [] pos) Γ c.R (fun a => ∃ t, P t ∧ c.post t a) (d1 + n) := by
  obtain ⟨f, fd, hm, hk', hb, F⟩ := F.ex
  refine ge_of (peG_call hgd F (hr.mono hk) hg hm hk' hb .nil hx (pa_cons pe_w pa_w he) hdb he hpl) fun σ W g eo Q q => h0 σ W g eo _ fun v0 z W0 e0 l0 r0 => ha σ W0 l0.good (eo.mono l0) _ fun vs t W1 p1 l1 r1 => ?_
  have e0' : v0 = .ref p := (show v0 = z from r0).trans e0
  subst e0'
  obtain ⟨h1, h2⟩ := hp t p1
  exact ⟨p, L, Cc, d1, W1.S, t, vs, by rw [List.append_nil], l1.good, r1, h1, by omega, fun v a S' H' pa l ra => q v a ⟨S', H'⟩ ⟨t, p1, pa⟩ ((l0.trans l1).trans (l.up (Nat.add_le_add_left h2 d1))) ra⟩
theorem fn_okSG {Pg : Program} {w : World} {Kf' : PySem.W.Frag} {mg : Str → Option Value} {base : Heap} {c : CtrS τ α} {x qual : Str} {stt : Stmt} {f : Addr} {fd : FuncData} {N ps : List Str} {k n : Nat} {G : τ → Env} (F : Fun Kf' x qual stt f fd) (S : FnScope N ps (defScope stt)) (ae : AEnv c.ra n G) (hn : n + 1 = ps.length)
    (hb : ∀ (cdv : Value) (A : Around) (outer : List PySem.Env) (s : Shared) (H : Hp) (E : XK) (B : Wd) (p L Cc : Addr) (d0 : Nat) (t : τ), A.guards = some [] → Room k (A.deeper (PyProof.Rows.envOfC qual (defScope stt) s.heap.objs.size f cdv)) → c.pre t → d0 + c.cost t ≤ lim →
      GS (cxOf CX0 Pg w Kf' mg base N qual (defScope stt) f cdv A outer s H E).nox (dm p L Cc) d0 B (defBody stt) (some (.pv jV (.ref p)) :: (G t ++ List.replicate (N.length - (n + 1)) none)) (Kf c.R (c.post t) (d0 + c.cost t))) : FnOkG Pg w Kf' mg base CX0 (k + 1) f fd ps (spS c) := by
  have hnN : n + 1 ≤ N.length := by
    have := congrArg List.length S.pre
    rw [List.length_take] at this
    omega
  have ae' := ae_cons (A := jV) ae
  refine F.okG S (fun vs H Q E h => ?_) (fun cdv A outer s H vs Q E hgd hr h => ?_)
  · obtain ⟨p, L, Cc, d0, S', t, rest, e, _, hra, _⟩ := h
    rw [e, List.length_cons, ae.len _ _ _ hra, hn]
  · obtain ⟨p, L, Cc, d0, S', t, rest, e, g, hra, hpre, hl, k'⟩ := h
    subst e
    have hra' : (aC jV c.ra).r S' (.ref p :: rest) (.ref p, t) := ⟨_, _, rfl, rfl, hra⟩
    refine ⟨wS _ (defBody stt), pss_w, ?_⟩
    refine hb cdv A outer s H E ⟨S', H⟩ p L Cc d0 t hgd hr hpre hl (ae'.own (S := S') (vs := _) (t := (.ref p, t)) hra') _ ⟨S', H⟩ (Le.refl g) (ae'.start (W := ⟨S', H⟩) (t := (.ref p, t)) hra' hnN) _ ⟨?_, ?_, ?_, ?_⟩
    · rintro d Γ σ W ⟨hd, a, pa, ra⟩ l _ _ _
      exact k' .non a W.S W.H pa (l.up hd) (ra W.S)
    · exact fun v a W pa l ra => k' v a W.S W.H pa l ra
    · exact fun _ _ _ _ h => h.elim
    · exact fun _ _ _ _ h => h.elim
end
end Gm

set_option Elab.async false
set_option linter.all false
set_option maxRecDepth 100000
namespace Gm
open PySem L2
section
variable {α β γ δ τ : Type} {X : Cx} {m : Am} {d d1 d2 d3 : Nat} {B : Wd} {Γ Γ' : Env} {e a b : Expr} {A : Rep α} {C : Rep γ} {A2 : Rep β} {P P' : γ → Prop} {pos p' : Pos} {K : Kn α} {rest body els sts : List Stmt} {st : Stmt}
/-! ### properties -/
structure PropAt (P : Program) (w : World) (K : PySem.W.Frag) (mg : Str → Option Value) (base : Heap) (CX : CXT) (k : Nat) (C : Addr) (f : Str) (sp : Sp) : Prop where
  ex : ∃ (p g : Addr) (fd : FuncData), PropOf K C f p g ∧ Binds K fd ["self"] [] ∧ FnOk P w K mg base CX k g fd ["self"] sp
def InsV (A : Rep α) (C : Addr) : Prop := ∀ S v a, A.r S v a → ∃ p dx fs, v = .ref p ∧ S p = some (.ins C dx fs)
theorem ge_prop {C0 : Addr} {R : Rep β} {f : Str} {g : α × Unit → β} {x : α} {pre : α × Unit → Prop} {k k0 : Nat} {CX : CXT} {E : XK} (F : PropAt X.prog X.w X.K X.mg X.base CX k C0 f (spP (ctrF (aC A aN) pre R g))) (hv : InsV A C0) (hc : Cls X.K C0) (hr : Room k0 X.A) (hk : k + 1 ≤ k0) (hx : Passes CX X.nox E)
    (ha : GE X m d e Γ A (fun z => z = x) d1) (hp : pre (x, ())) (hb : attributeBase e f X.env (eval e X.env) = eval e X.env := by rfl) : GE X m d (.Attribute e f pos) Γ R (fun z => z = g (x, ())) d1 := by
  obtain ⟨p, ga, fd, hP, hB, F⟩ := F.ex
  refine ge_of (pe_prop pe_w hc hP F (hr.mono hk) hB .nil hx hb) fun σ W gd eo Q q => ha σ W gd eo _ fun v y W1 p1 l1 r1 => ?_
  obtain ⟨q1, dx, fs, e1, h1⟩ := hv _ _ _ r1
  subst p1
  refine ⟨q1, dx, fs, e1, l1.good.sub _ _ h1, W1.S, (y, ()), l1.good.sub, ⟨v, [], by rw [e1], r1, rfl⟩, hp, fun v' a S' H' pa l ra => q v' a ⟨S', H'⟩ pa (l1.trans (l.lift l1.good)) ra⟩

/-! ### things that are made -/
structure FldE where
  nm : Str
  T : Type
  A : Rep T
  a : T
def FldsOk (S : Hp) : List (Str × V) → List FldE → Prop
  | [], [] => True
  | q :: fs, x :: fl => q.1 = x.nm ∧ x.A.r S q.2 x.a ∧ FldsOk S fs fl
  | _, _ => False
theorem FldsOk.mono {S S' : Hp} (s : Same S S') : ∀ {fs : List (Str × V)} {fl : List FldE}, FldsOk S fs fl → FldsOk S' fs fl
  | [], [], _ => trivial
  | _ :: _, x :: _, ⟨e, h, r⟩ => ⟨e, x.A.mono s h, FldsOk.mono s r⟩
  | [], _ :: _, h => h.elim
  | _ :: _, [], h => h.elim
theorem FldsOk.len {S : Hp} : ∀ {fs : List (Str × V)} {fl : List FldE}, FldsOk S fs fl → fs.length = fl.length
  | [], [], _ => rfl
  | _ :: _, _ :: _, ⟨_, _, r⟩ => congrArg (· + 1) (FldsOk.len r)
  | [], _ :: _, h => h.elim
  | _ :: _, [], h => h.elim
theorem FldsOk.nil' {S : Hp} {fs : List (Str × V)} (h : FldsOk S fs []) : fs = [] := by
  cases fs with
  | nil => rfl
  | cons _ _ => exact h.elim
theorem FldsOk.cons' {S : Hp} {fs : List (Str × V)} {x : FldE} {fl : List FldE} (h : FldsOk S fs (x :: fl)) : ∃ u r, fs = (x.nm, u) :: r ∧ x.A.r S u x.a ∧ FldsOk S r fl := by
  cases fs with
  | nil => exact h.elim
  | cons q r =>
    obtain ⟨n, u⟩ := q
    obtain ⟨h1, h2, h3⟩ := h
    have h1 : n = x.nm := h1
    exact ⟨u, r, by rw [h1], h2, h3⟩
theorem FldsOk.one {S : Hp} {fs : List (Str × V)} {x : FldE} (h : FldsOk S fs [x]) : ∃ u, fs = [(x.nm, u)] ∧ x.A.r S u x.a := by
  obtain ⟨u, r, e, h1, h2⟩ := h.cons'
  exact ⟨u, by rw [e, h2.nil'], h1⟩
def putFE (x : FldE) : List FldE → List FldE
  | [] => [x]
  | y :: r => if x.nm = y.nm then x :: r else y :: putFE x r
theorem FldsOk.put {S : Hp} {x : FldE} {v : V} (h : x.A.r S v x.a) : ∀ {fs : List (Str × V)} {fl : List FldE}, FldsOk S fs fl → FldsOk S (putF x.nm v fs) (putFE x fl)
  | [], [], _ => ⟨rfl, h, trivial⟩
  | (g, u) :: fs, y :: fl, ⟨e, k, r⟩ => by
    rw [putF, putFE]
    have e : g = y.nm := e
    subst e
    by_cases q : x.nm = y.nm
    · rw [if_pos q.symm, if_pos q]; exact ⟨q.symm, h, r⟩
    · rw [if_neg (fun z => q z.symm), if_neg q]; exact ⟨rfl, k, FldsOk.put h r⟩
  | [], _ :: _, h => h.elim
  | _ :: _, [], h => h.elim
/-- an instance of one's own -/
def oIns (C dx : Addr) (fl : List FldE) : ORep Unit := ⟨fun S o _ => ∃ fs, o = .ins C dx fs ∧ FldsOk S fs fl, fun s ⟨fs, e, h⟩ => ⟨fs, e, h.mono s⟩⟩
theorem EnvOk.turn2 {σ : L2.St} {W : Wd} {n : Nat} {p : Addr} {β' γ' : Type} {O' : ORep β'} {O2 : ORep γ'} {b0 : β'} {b1 : γ'} {o : HO} (eo : EnvOk m Γ σ W) (on : OwnNew B Γ) (hΓ : Γ[n]? = some (some (.own p O' b0))) (h : O2.r W.S o b1) :
    EnvOk m (Γ.set n (some (.own p O2 b1))) σ ⟨W.S, upd W.H p o⟩ := by
  refine ⟨by rw [List.length_set]; exact eo.len, fun j g hj => ?_⟩
  by_cases q : j = n
  · subst q
    rw [List.getElem?_set_self (List.getElem?_eq_some_iff.mp hΓ).1] at hj
    cases hj
    obtain ⟨v, h1, h2, h3, h4, _⟩ := eo.at_ j _ hΓ
    exact ⟨v, h1, h2, h3, h4, o, upd_same, h⟩
  · rw [List.getElem?_set_ne (Ne.symm q)] at hj
    obtain ⟨v, h1, h2⟩ := eo.at_ j g hj
    refine ⟨v, h1, ?_⟩
    cases g with
    | pv A a => exact h2
    | own q' O b =>
      obtain ⟨e1, e2, e3, o', e4, e5⟩ := h2
      have ne : q' ≠ p := on.apart j n _ _ q' p O b O' b0 hj hΓ q
      exact ⟨e1, e2, e3, o', by show upd W.H p o q' = _; rw [upd_ne ne]; exact e4, e5⟩
/-- x.f = e of a thing of one's own -/
theorem gs_fldset (n : Nat) {y f : Str} {py ap : Pos} {C0 dx p : Addr} {fl : List FldE} (hc : Cls X.K C0) (hn : NoAttr X.K C0 f) (he : GE X m d e Γ C P d1) (hl : fl.length < 1000) (k : ∀ a, P a → GS X m d1 B rest (Γ.set n (some (.own p (oIns C0 dx (putFE ⟨f, γ, C, a⟩ fl)) ()))) K)
    (hΓ : Γ[n]? = some (some (.own p (oIns C0 dx fl) ())) := by rfl) (hN : X.N[n]? = some y := by rfl) (hv : Vis X.env.scope y := by first | exact Or.inl rfl | exact Or.inr (Or.inl rfl) | exact Or.inr (Or.inr rfl)) (hd : (y == ("__debug__" : Str)) = false := by decide) (hcd : (y == ("__classdict__" : Str)) = false := by decide)
    (hs : swapsWith e (some (.Attribute (.Name y py) f ap)) pos.line X.env = pure false := by rfl) : GS X m d B (.Assign [.Attribute (.Name y py) f ap] e pos :: rest) Γ K := by
  refine gs_of (pss_cons (ps_fld (pe_var hN hv hd hcd) pe_w hs) pss_w) fun on σ W l eo D dk => he σ W l.good eo _ fun u x W1 p1 l1 r1 => ?_
  have eo1 := eo.mono l1
  obtain ⟨v, h1, h2, h3, h4, o, h5, fs, h6, h7⟩ := eo1.at_ n _ hΓ
  subst h2; subst h6
  refine ⟨_, h1, p, C0, dx, fs, rfl, h5, hc, hn, by rw [h7.len]; exact hl, ?_⟩
  have hb := on.new n _ p _ _ hΓ
  refine k x p1 (on.setOwn n hb fun j β q O b hj he => on.apart j n _ _ q p O b _ _ he hΓ hj) σ ⟨W1.S, upd W1.H p (.ins C0 dx (putF f u fs))⟩ ((l.trans l1).turn hb h3 h4) (eo1.turn2 on hΓ ⟨_, rfl, FldsOk.put (x := ⟨f, γ, C, x⟩) r1 h7⟩) D (dk.mono l1.ext)
structure CtrI (τ : Type) where
  ra : ARep τ
  pre : τ → Prop
  fin : τ → List FldE
def spI (C0 : Addr) (c : CtrI τ) : Sp := fun vs H Q _ => ∃ (x dx : Addr) (B : Wd) (S : Hp) (t : τ) (rest : List V), vs = .ref x :: rest ∧ B.H x = none ∧ Le Am.no 0 B ⟨S, H⟩ ∧ S x = none ∧ H x = some (.ins C0 dx []) ∧ c.ra.r S rest t ∧ c.pre t ∧
  ∀ S' H' fs, Le Am.no 0 B ⟨S', H'⟩ → S' x = none → H' x = some (.ins C0 dx fs) → FldsOk S' fs (c.fin t) → Q .non H'
structure NewAt (P : Program) (w : World) (K : PySem.W.Frag) (mg : Str → Option Value) (base : Heap) (CX : CXT) (k : Nat) (x : Str) (C0 : Addr) (ps : List Str) (sp : Sp) : Prop where
  ex : ∃ (f : Addr) (fd : FuncData), Mk K C0 f ∧ mg x = some (.ref C0) ∧ Binds K fd ps [] ∧ FnOk P w K mg base CX k f fd ps sp
theorem ge_new {c : CtrI τ} {g : τ → α} {C0 : Addr} {x : Str} {q1 : Pos} {es : List Expr} {k k0 : Nat} {ps : List Str} {t : τ} {CX : CXT} {E : XK} (F : NewAt X.prog X.w X.K X.mg X.base CX k x C0 ps (spI C0 c)) (hA : ∀ S p dx fs t, S p = some (.ins C0 dx fs) → FldsOk S fs (c.fin t) → A.r S (.ref p) (g t)) (hr : Room k0 X.A) (hk : k + 1 ≤ k0) (hx : Passes CX X E)
    (ha : GA X m d (e :: es) Γ c.ra (fun z => z = t) d1) (hp : c.pre t) (hg : Gl X x := by rfl) (hdb : (x == ("__debug__" : Str)) = false := by decide) (he : starEach (e :: es) X.env = (false, eval e X.env) :: starEach es X.env := by rfl) (hpl : (backTo pos (starEach es X.env)).any (·.1) = false := by rfl) :
    GE X m d (.Call (.Name x q1) (e :: es) [] pos) Γ A (fun z => z = g t) d1 := by
  obtain ⟨f, fd, M, hm, hb, F⟩ := F.ex
  refine ge_of (pe_make M F (hr.mono hk) hg hm hb .nil hx pa_w hdb he hpl) fun σ W gd eo Q q => ha σ W gd eo _ fun vs t' W1 p1 l1 r1 y dx ny ndx ne => ?_
  subst p1
  have ny' : upd W1.H dx (.own y) y = none := (upd_ne (Ne.symm ne)).trans ny
  have g0 : Good Am.no 0 W1 := ⟨l1.good.sub, trivial, fun _ f => f.elim⟩
  have l2 := g0.put (o := .own y) ndx
  have l3 := l2.good.put (p := y) (o := .ins C0 dx []) ny'
  have sn : W1.S y = none := g0.fresh ny
  refine ⟨y, dx, W1, W1.S, t', vs, by rw [List.append_nil], ny, l2.trans l3, sn, upd_same, r1, hp, fun S' H' fs l4 hn h5 h6 => ⟨rfl, ?_⟩⟩
  have l5 : Le Am.no 0 W1 ⟨upd S' y (.ins C0 dx fs), H'⟩ := l4.rest ny h5 hn (fun z => z)
  exact q (.ref y) (g t') _ rfl (l1.trans (l5.lift l1.good)) (hA _ y dx fs t' upd_same (h6.mono (Same.rest hn)))
/-- how the body of __init__ ends -/
abbrev Ki (x C0 dx : Addr) (fl : List FldE) : Kn Unit := ⟨fun n Γ => n ≤ 0 ∧ Γ[0]? = some (some (.own x (oIns C0 dx fl) ())), jN, fun _ => False, 0, fun _ _ => False, fun _ _ => False⟩
end
section
variable {α β γ δ τ : Type} {Pg : Program} {w : World} {Kf' : PySem.W.Frag} {mg : Str → Option Value} {base : Heap}
theorem AEnv.noown {R : ARep τ} {n : Nat} {G : τ → Env} (h : AEnv R n G) {S : Hp} {vs : List V} {t : τ} {k : Nat} (r : R.r S vs t) (i : Nat) (β : Type) (p : Addr) (O : ORep β) (b : β) : (G t ++ List.replicate k none)[i]? ≠ some (some (.own p O b)) := by
  intro hi
  by_cases hin : i < (G t).length
  · rw [List.getElem?_append_left hin] at hi
    obtain ⟨v, α, A, a, _, q2, _⟩ := h.at_ _ _ _ _ _ r hi
    cases q2
  · rw [List.getElem?_append_right (by omega), List.getElem?_replicate] at hi
    split at hi <;> cases hi
theorem fn_okI {C0 : Addr} {c : CtrI τ} {x qual : Str} {stt : Stmt} {f : Addr} {fd : FuncData} {N ps : List Str} {k n : Nat} {dvs : List V} {G : τ → Env} (F : FunD Kf' x qual (defArgs stt) (defBody stt) (defScope stt) dvs [] f fd) (S : FnScope N ps (defScope stt)) (ae : AEnv c.ra n G) (hn : n + 1 = ps.length)
    (hb : ∀ (cdv : Value) (A : Around) (outer : List PySem.Env) (s : Shared) (H : Hp) (E : XK) (B : Wd) (x dx : Addr) (t : τ), Room k (A.deeper (PyProof.Rows.envOfC qual (defScope stt) s.heap.objs.size f cdv)) → c.pre t →
      GS (cxOf CX0 Pg w Kf' mg base N qual (defScope stt) f cdv A outer s H E).nox Am.no 0 B (defBody stt) (some (.own x (oIns C0 dx []) ()) :: (G t ++ List.replicate (N.length - (n + 1)) none)) (Ki x C0 dx (c.fin t))) : FnOk Pg w Kf' mg base CX0 (k + 1) f fd ps (spI C0 c) := by
  have hnN : n + 1 ≤ N.length := by
    have := congrArg List.length S.pre
    rw [List.length_take] at this
    omega
  refine F.ok S (fun vs H Q E h => ?_) (fun cdv A outer s H vs Q E hr h => ?_)
  · obtain ⟨x, dx, B, S', t, rest, e, _, _, _, _, hra, _⟩ := h
    rw [e, List.length_cons, ae.len _ _ _ hra, hn]
  · obtain ⟨x, dx, B, S', t, rest, e, nx, l0, sx, hx, hra, hpre, k'⟩ := h
    subst e
    refine ⟨wS (cxOf CX0 Pg w Kf' mg base N qual (defScope stt) f cdv A outer s H E).nox (defBody stt), pss_w.nox, ?_⟩
    have ae' := ae_cons (A := jV) ae
    have hra' : (aC jV c.ra).r S' (.ref x :: rest) (.ref x, t) := ⟨_, _, rfl, rfl, hra⟩
    have st0 : EnvOk Am.no _ (start N (.ref x :: rest)) ⟨S', H⟩ := ae'.start (W := ⟨S', H⟩) (t := (.ref x, t)) hra' hnN
    refine hb cdv A outer s H E B x dx t hr hpre ⟨?_, ?_⟩ _ ⟨S', H⟩ l0 ⟨?_, ?_⟩ _ ⟨?_, ?_, ?_, ?_⟩
    · intro i β p O b hi
      cases i with
      | zero => simp at hi; obtain ⟨rfl, rfl, h1, h2⟩ := hi; exact nx
      | succ i => exact absurd (show (G t ++ List.replicate (N.length - (n + 1)) none)[i]? = some (some (Ent.own p O b)) by simpa using hi) (ae.noown hra i β p O b)
    · intro i j β γ p q O b O' b' hi hj ne
      cases i with
      | succ i => exact absurd (show (G t ++ List.replicate (N.length - (n + 1)) none)[i]? = some (some (Ent.own p O b)) by simpa using hi) (ae.noown hra i β p O b)
      | zero =>
        cases j with
        | zero => exact absurd rfl ne
        | succ j => exact absurd (show (G t ++ List.replicate (N.length - (n + 1)) none)[j]? = some (some (Ent.own q O' b')) by simpa using hj) (ae.noown hra j γ q O' b')
    · rw [st0.len]; rfl
    · intro i e hi
      cases i with
      | zero =>
        simp at hi
        subst hi
        obtain ⟨v, h1, h2⟩ := st0.at_ 0 _ rfl
        exact ⟨v, h1, h2, sx, fun z => z, _, hx, [], rfl, trivial⟩
      | succ i => exact st0.at_ (i + 1) e (by simpa using hi)
    · intro d Γ σ W ⟨hd, hΓ⟩ l _ eo _
      obtain ⟨v, h1, h2, h3, h4, o, h5, fs, h6, h7⟩ := eo.at_ 0 _ hΓ
      subst h6
      exact k' W.S W.H fs (l.up hd) h3 h5 h7
    · exact fun _ _ _ h => h.elim
    · exact fun _ _ _ _ h => h.elim
    · exact fun _ _ _ _ h => h.elim
end
/-! ### f(k = e) -/
section
variable {X : Cx} {CX : CXT} {k : Nat} {f : Addr} {fd : FuncData} {ps ks : List Str} {sp : Sp} {E : XK} {x : Str} {p pos : Pos} {kws : List Keyword} {tk : TA} {g : List Value → List Value → List Value} {gV : List V → List V → List V}
theorem pe_callN0 (F : FnOk X.prog X.w X.K X.mg X.base CX k f fd ps sp) (hr : Room k X.A) (hg : Gl X x) (hm : X.mg x = some (.ref f)) (hk : PySem.W.keepIn X.K (.ref f) = true) (hb : KBn X.K fd ps 0 ks g gV) (hx : Passes CX X E)
    (hkw : PK X kws tk) (hall : (backToKw pos (keywordEach kws X.env)).all (·.1.isSome) = true) (hks : (backToKw pos (keywordEach kws X.env)).filterMap (·.1) = ks)
    (hdb : (x == ("__debug__" : Str)) = false) (hpl : ((backTo pos (starEach [] X.env)).any (·.1) || (backToKw pos (keywordEach kws X.env)).any (·.1.isNone)) = false) :
    PE X (.Call (.Name x p) [] kws pos) (tCallN 0 ks.length sp gV E tNil tk) := by
  refine ⟨fun pins s σ H Q I h => ?_⟩
  refine wpAny_Call_Name_kw (ld_glob I hg hm ?_ hdb)
  refine PySem.W.callWith_KW0 (h₀ := X.base) I.ok.mod.kin hk hall ?_ hpl
  refine thn (hkw.run pos pins s σ H _ I h) fun ws s2 ⟨zs, H2, I2, rz, l1, l2, q2⟩ => ⟨I2.kIn, ?_⟩
  rw [hks]
  exact run_fnN (us := []) (vs := []) F hr hb hx I2 .nil rz rfl l2 q2
end
section
variable {α β γ δ τ : Type} {X : Cx} {m : Am} {d d1 d2 d3 : Nat} {B : Wd} {Γ Γ' : Env} {e a b : Expr} {A : Rep α} {C : Rep γ} {A2 : Rep β} {P P' : γ → Prop} {pos p' : Pos} {K : Kn α} {rest body els sts : List Stmt} {st : Stmt}
theorem ge_ifT {c : Expr} {x : Bool} {v : γ} (hc : GT X m d c Γ (fun z => z = x) d1) (hx : x = true) (h : GE X m d1 a Γ C (fun z => z = v) d2) : GE X m d (.IfExp c a b pos) Γ C (fun z => z = v) d2 :=
  (ge_ifF (y := v) (z := v) hc (fun _ => h) (fun hk => absurd (hk.symm.trans hx) (by decide))).imp fun z e => by rw [e]; simp
theorem ge_ifN {c : Expr} {x : Bool} {v : γ} (hc : GT X m d c Γ (fun z => z = x) d1) (hx : x = false) (h : GE X m d1 b Γ C (fun z => z = v) d2) : GE X m d (.IfExp c a b pos) Γ C (fun z => z = v) d2 :=
  (ge_ifF (y := v) (z := v) hc (fun hk => absurd (hk.symm.trans hx) (by decide)) (fun _ => h)).imp fun z e => by rw [e]; simp
/-- x += e, x -= e -/
theorem gs_augadd (i : Nat) {x : Str} {z : Int} {P : Int → Prop} (hN : X.N.Nodup) (he : GE X m d e Γ jI P d1) (k : ∀ a, (∃ y, P y ∧ a = z + y) → GS X m d1 B rest (Γ.set i (some (.pv jI a))) K) (hΓ : Γ[i]? = some (some (.pv jI z)) := by rfl) (hi : X.N[i]? = some x := by rfl) (hx : Loc X.env.scope x := by first | exact Or.inl rfl | exact Or.inr rfl)
    (hf : X.fn x = true ∨ X.env.scope.names.lookup x = some .local := by first | exact .inl rfl | exact .inr rfl) : GS X m d B (.AugAssign (.Name x p') .Add e pos :: rest) Γ K :=
  gs_of (pss_cons (ps_aug hN hi hx pe_w ip_add hf) pss_w) fun on σ W l eo D dk => by
    obtain ⟨v, h1, h2⟩ := eo.at_ i _ hΓ
    obtain rfl : v = V.int z := h2
    refine ⟨_, h1, he σ W l.good eo _ fun u y W1 p1 l1 r1 => ⟨z, y, rfl, r1, ?_⟩⟩
    exact k (z + y) ⟨y, p1, rfl⟩ (on.setPv i) _ W1 (l.trans l1) ((eo.mono l1).set i rfl) D (dk.mono l1.ext)
theorem gs_augsub (i : Nat) {x : Str} {z : Int} {P : Int → Prop} (hN : X.N.Nodup) (he : GE X m d e Γ jI P d1) (k : ∀ a, (∃ y, P y ∧ a = z - y) → GS X m d1 B rest (Γ.set i (some (.pv jI a))) K) (hΓ : Γ[i]? = some (some (.pv jI z)) := by rfl) (hi : X.N[i]? = some x := by rfl) (hx : Loc X.env.scope x := by first | exact Or.inl rfl | exact Or.inr rfl)
    (hf : X.fn x = true ∨ X.env.scope.names.lookup x = some .local := by first | exact .inl rfl | exact .inr rfl) : GS X m d B (.AugAssign (.Name x p') .Sub e pos :: rest) Γ K :=
  gs_of (pss_cons (ps_aug hN hi hx pe_w ip_sub hf) pss_w) fun on σ W l eo D dk => by
    obtain ⟨v, h1, h2⟩ := eo.at_ i _ hΓ
    obtain rfl : v = V.int z := h2
    refine ⟨_, h1, he σ W l.good eo _ fun u y W1 p1 l1 r1 => ⟨z, y, rfl, r1, ?_⟩⟩
    exact k (z - y) ⟨y, p1, rfl⟩ (on.setPv i) _ W1 (l.trans l1) ((eo.mono l1).set i rfl) D (dk.mono l1.ext)
/-- a def of one parameter, called by name -/
structure FnKw (P : Program) (w : World) (K : PySem.W.Frag) (mg : Str → Option Value) (base : Heap) (CX : CXT) (k : Nat) (x y : Str) (sp : Sp) : Prop where
  ex : ∃ (f : Addr) (fd : FuncData), mg x = some (.ref f) ∧ PySem.W.keepIn K (.ref f) = true ∧ KBn K fd [y] 0 [y] (fun _ ws => ws) (fun _ zs => zs) ∧ FnOk P w K mg base CX k f fd [y] sp
theorem ge_fnKw {c : γ → Prop} {R : Rep α} {g : γ × Unit → α} {z : γ} {pre : γ × Unit → Prop} {x y : Str} {q1 q2 : Pos} {k k0 : Nat} {CX : CXT} {E : XK} (F : FnKw X.prog X.w X.K X.mg X.base CX k x y (spP (ctrF (aC C aN) pre R g))) (hr : Room k0 X.A) (hk : k ≤ k0) (hx : Passes CX X E) (ha : GE X m d e Γ C (fun u => u = z) d1) (hp : pre (z, ()))
    (hg : Gl X x := by rfl) (hall : (backToKw pos (keywordEach [⟨some y, e, q2⟩] X.env)).all (·.1.isSome) = true := by rfl) (hks : (backToKw pos (keywordEach [⟨some y, e, q2⟩] X.env)).filterMap (·.1) = [y] := by rfl)
    (hdb : (x == ("__debug__" : Str)) = false := by decide) (hpl : ((backTo pos (starEach [] X.env)).any (·.1) || (backToKw pos (keywordEach [⟨some y, e, q2⟩] X.env)).any (·.1.isNone)) = false := by rfl) :
    GE X m d (.Call (.Name x q1) [] [⟨some y, e, q2⟩] pos) Γ R (fun u => u = g (z, ())) d1 := by
  obtain ⟨f, fd, hm, hk', hb, F⟩ := F.ex
  refine ge_of (pe_callN0 F (hr.mono hk) hg hm hk' hb hx (pk_cons pe_w pk_nil) hall hks hdb hpl) fun σ W gd eo Q q => ?_
  show wE X e σ W.H _
  refine ha σ W gd eo _ fun v y' W1 p1 l1 r1 => ?_
  subst p1
  exact ⟨rfl, rfl, W1.S, (y', ()), l1.good.sub, ⟨v, [], rfl, r1, rfl⟩, hp, fun v' a S' H' pa l ra => q v' a ⟨S', H'⟩ pa (l1.trans (l.lift l1.good)) ra⟩
end
end Gm

set_option Elab.async false
set_option linter.all false
set_option maxRecDepth 100000
namespace Gm
open PySem L2
section
variable {α β γ δ τ : Type} {X : Cx} {m : Am} {d d1 d2 d3 : Nat} {B : Wd} {Γ Γ' : Env} {e a b : Expr} {A : Rep α} {C : Rep γ} {A2 : Rep β} {P P' : γ → Prop} {pos p' : Pos} {K : Kn α} {rest body els sts : List Stmt} {st : Stmt}
theorem mem_rng {lo : Int} {n : Nat} {j : Int} : j ∈ rng lo n ↔ lo ≤ j ∧ j < lo + n := by
  unfold rng
  rw [List.mem_map]
  constructor
  · rintro ⟨a, h, rfl⟩
    rw [List.mem_range] at h; omega
  · intro ⟨h1, h2⟩
    exact ⟨(j - lo).toNat, by rw [List.mem_range]; omega, by omega⟩
theorem rng_split {lo : Int} {n : Nat} {pre post : List Int} {x : Int} (h : rng lo n = pre ++ x :: post) : x = lo + pre.length ∧ pre.length < n ∧ pre = rng lo pre.length := by
  have hl : pre.length < n := by
    have := congrArg List.length h
    rw [rng_len, List.length_append, List.length_cons] at this
    omega
  have hx : (rng lo n)[pre.length]? = some x := by rw [h]; simp
  have hx2 : (rng lo n)[pre.length]? = some (lo + pre.length) := by
    unfold rng
    rw [List.getElem?_map, List.getElem?_range hl]; rfl
  rw [hx] at hx2
  refine ⟨Option.some.inj hx2, hl, ?_⟩
  have ht : (rng lo n).take pre.length = pre := by rw [h]; simp
  rw [← ht]
  unfold rng
  rw [← List.map_take, List.take_range, List.length_map, List.length_range]
/-- a draw, of known arguments -/
theorem ge_stF {ra : ARep τ} {pre : τ → Prop} {R : Rep α} {post : τ → α → Prop} {cost : τ → Nat} {p L Cc : Addr} {x : Str} {q1 : Pos} {es : List Expr} {k k0 : Nat} {ps : List Str} {t : τ} {CX : CXT} {E : XK} (F : FnAt X.prog X.w X.K X.mg X.base CX k x ps (spS ⟨ra, pre, R, post, cost⟩)) (hr : Room k0 X.A) (hk : k ≤ k0) (hx : Passes CX X E)
    (h0 : GE X (dm p L Cc) d e Γ jV (fun z => z = .ref p) d) (ha : GA X (dm p L Cc) d es Γ ra (fun z => z = t) d1) (hp : pre t) (hd : d1 + cost t ≤ lim)
    (hg : Gl X x := by rfl) (hdb : (x == ("__debug__" : Str)) = false := by decide) (he : starEach (e :: es) X.env = (false, eval e X.env) :: starEach es X.env := by rfl) (hpl : (backTo pos (starEach es X.env)).any (·.1) = false := by rfl) :
    GE X (dm p L Cc) d (.Call (.Name x q1) (e :: es) [] pos) Γ R (post t) (d1 + cost t) :=
  (ge_st F hr hk hx h0 ha (n := cost t) (fun t' e => by rw [show t' = t from e]; exact ⟨hp, Nat.le_refl _⟩) hd hg hdb he hpl).imp fun z ⟨t', e1, e2⟩ => by have e1 : t' = t := e1; subst e1; exact e2
/-- a draw, of arguments of which a property is known -/
theorem ge_stP {ra : ARep τ} {pre : τ → Prop} {R : Rep α} {post : τ → α → Prop} {cost : τ → Nat} {p L Cc : Addr} {x : Str} {q1 : Pos} {es : List Expr} {k k0 : Nat} {ps : List Str} {P1 : τ → Prop} {P2 : α → Prop} {CX : CXT} {E : XK} (F : FnAt X.prog X.w X.K X.mg X.base CX k x ps (spS ⟨ra, pre, R, post, cost⟩)) (hr : Room k0 X.A) (hk : k ≤ k0) (hx : Passes CX X E)
    (n : Nat) (h0 : GE X (dm p L Cc) d e Γ jV (fun z => z = .ref p) d) (ha : GA X (dm p L Cc) d es Γ ra P1 d1) (hp : ∀ t, P1 t → pre t ∧ cost t ≤ n) (h2 : ∀ t a, P1 t → post t a → P2 a) (hd : d1 + n ≤ lim)
    (hg : Gl X x := by rfl) (hdb : (x == ("__debug__" : Str)) = false := by decide) (he : starEach (e :: es) X.env = (false, eval e X.env) :: starEach es X.env := by rfl) (hpl : (backTo pos (starEach es X.env)).any (·.1) = false := by rfl) :
    GE X (dm p L Cc) d (.Call (.Name x q1) (e :: es) [] pos) Γ R P2 (d1 + n) :=
  (ge_st F hr hk hx h0 ha (n := n) hp hd hg hdb he hpl).imp fun z ⟨t', e1, e2⟩ => h2 t' z e1 e2
theorem atI_in {l : List α} {i : Int} (h0 : 0 ≤ i) (h1 : i < l.length) : ∃ x, atI l i = some x ∧ x ∈ l := by
  have h2 : i.toNat < l.length := by omega
  refine ⟨l[i.toNat], ?_, List.getElem_mem h2⟩
  unfold atI ixN
  rw [if_pos h0, if_pos h1]
  exact List.getElem?_eq_getElem h2
theorem atI_mem {l : List α} {i : Int} {x : α} (h : atI l i = some x) : x ∈ l := by
  unfold atI at h
  cases hj : ixN l.length i with
  | none => rw [hj] at h; cases h
  | some j => rw [hj] at h; exact List.mem_of_getElem? h
theorem ge_atP {l : List α} {P2 : Int → Prop} (ha : GE X m d a Γ (jL A) (fun z => z = l) d1) (hb : GE X m d1 b Γ jI P2 d2) (hx : ∀ i, P2 i → 0 ≤ i ∧ i < l.length) (hp : PlainIx b := by intro _ _; rfl) : GE X m d (.Subscript a b pos) Γ A (fun z => z ∈ l) d2 :=
  (ge_ix ix_list ov_ixL ha hb (fun l' i e1 e2 => by
    rw [e1]
    obtain ⟨x, h, _⟩ := atI_in (hx i e2).1 (hx i e2).2
    exact ⟨x, h⟩) hp).imp fun z ⟨l', i', e1, e2, e3⟩ => by rw [e1] at e3; exact atI_mem e3
/-- x, y = a, b -/
theorem gs_par (i j : Nat) {x y : Str} {px py pt pt2 : Pos} {kt k2 : Nat} {P : γ × δ × Unit → Prop} {D : Rep δ} (hc : X.calm = true) (hN : X.N.Nodup) (ha : GA X m d [a, b] Γ (aC C (aC D aN)) P d1)
    (k : ∀ u v, P (u, v, ()) → GS X m d1 B rest ((Γ.set i (some (.pv C u))).set j (some (.pv D v))) K) (hi : X.N[i]? = some x := by rfl) (hj : X.N[j]? = some y := by rfl) (hij : i ≠ j := by decide)
    (hx : X.env.scope.names.lookup x = some .local := by rfl) (hy : X.env.scope.names.lookup y = some .local := by rfl)
    (hw : swappedStores [.Tuple [.Name x px, .Name y py] kt pt] (.Tuple [a, b] k2 pt2) X.env = pure (some [x, y]) := by rfl)
    (hs : swapsWithSole [.Tuple [.Name x px, .Name y py] kt pt] (.Tuple [a, b] k2 pt2) pos.line X.env = pure false := by rfl) : GS X m d B (.Assign [.Tuple [.Name x px, .Name y py] kt pt] (.Tuple [a, b] k2 pt2) pos :: rest) Γ K :=
  gs_of (pss_cons (ps_par hc hN hi hj hij hx hy pa_w hw hs) pss_w) fun on σ W l eo D' dk => ha σ W l.good eo _ fun vs t W1 p1 l1 r1 => by
    obtain ⟨v, r, e, h1, w, r', e', h2, e''⟩ := r1
    have e'' : r' = [] := e''
    subst e e' e''
    refine ⟨v, w, rfl, ?_⟩
    have o1 : EnvOk m (Γ.set i (some (.pv C t.1))) (σ.set i (some v)) W1 := EnvOk.set (e := .pv C t.1) i (eo.mono l1) h1
    have o2 : EnvOk m ((Γ.set i (some (.pv C t.1))).set j (some (.pv D t.2.1))) ((σ.set i (some v)).set j (some w)) W1 := EnvOk.set (e := .pv D t.2.1) j o1 h2
    exact k t.1 t.2.1 p1 ((on.setPv i).setPv j) _ W1 (l.trans l1) o2 D' (dk.mono l1.ext)
end
end Gm

set_option Elab.async false
set_option linter.all false
set_option maxRecDepth 100000
namespace Gm
open PySem L2
/-! ### what repr can show, counted -/
structure ShowB (d : PyData) (n k : Nat) : Prop where
  sh : d.showable = true
  nd : d.hasDict = false
  dp : d.depth ≤ k
  ln : d.shown.length ≤ n
structure ShowBs (l : List PyData) (n k : Nat) : Prop where
  sh : PyData.showableAll l = true
  nd : PyData.hasDictAll l = false
  dp : PyData.depthAll l ≤ k
  ln : ((PyData.shownAll l).map (·.length)).sum + 2 * l.length ≤ n
theorem shownAll_len : ∀ l : List PyData, (PyData.shownAll l).length = l.length
  | [] => by simp [PyData.shownAll]
  | _ :: l => by simp [PyData.shownAll, shownAll_len l]
theorem ShowB.ok {d : PyData} {n k : Nat} (h : ShowB d n k) (hn : n ≤ 16777216 := by decide) (hk : k ≤ 60 := by decide) : ShowOk d := ⟨h.sh, h.nd, Nat.le_trans h.dp hk, Nat.le_trans h.ln (Nat.le_trans hn (by decide))⟩
theorem sbI {i : Int} (h : i.natAbs < 2 ^ 1900) : ShowB (.int i) 1921 1 := by
  have hl : i.natAbs.log2 < 1920 := by
    by_cases z : i.natAbs = 0
    · rw [z]; decide
    · exact (Nat.log2_lt z).mpr (Nat.lt_of_lt_of_le h (Nat.pow_le_pow_right (by decide) (by decide)))
  exact ⟨by simp [PyData.showable, hl], by simp [PyData.hasDict], by simp [PyData.depth], by simpa [PyData.shown] using PyProof.Rows.int_text_len_1921 hl⟩
theorem sbJ {i : Int} (h0 : -1000000000000000000 ≤ i) (h1 : i ≤ 1000000000000000000) : ShowB (.int i) 1921 1 := sbI (Nat.lt_of_lt_of_le (show i.natAbs < 2 ^ 62 by omega) (Nat.pow_le_pow_right (by decide) (by decide)))
theorem sbB {b : Bool} : ShowB (.bool b) 5 1 := by cases b <;> exact ⟨rfl, rfl, by decide, by decide⟩
theorem sbN : ShowB .none 5 1 := ⟨rfl, rfl, by decide, by decide⟩
theorem sb_nil {k : Nat} : ShowBs [] 0 k := ⟨by simp [PyData.showableAll], by simp [PyData.hasDictAll], by simp [PyData.depthAll], by simp [PyData.shownAll]⟩
theorem sb_cons {x : PyData} {l : List PyData} {n n' k : Nat} (h : ShowB x n k) (h' : ShowBs l n' k) : ShowBs (x :: l) (n + n' + 2) k :=
  ⟨by simp [PyData.showableAll, h.sh, h'.sh], by simp [PyData.hasDictAll, h.nd, h'.nd], by have := h.dp; have := h'.dp; simp only [PyData.depthAll]; omega, by
    have := h.ln; have := h'.ln
    simp only [PyData.shownAll, List.map_cons, List.sum_cons, List.length_cons]; omega⟩
theorem sbs_map {α : Type} {D : α → PyData} {n k : Nat} : ∀ {l : List α}, (∀ x ∈ l, ShowB (D x) n k) → ShowBs (l.map D) (l.length * (n + 2)) k
  | [], _ => by simpa using sb_nil
  | x :: l, h => by
    have h1 := sb_cons (h x (by simp)) (sbs_map (l := l) fun y hy => h y (by simp [hy]))
    have e : n + l.length * (n + 2) + 2 = (l.length + 1) * (n + 2) := by rw [Nat.add_mul]; omega
    rw [e] at h1
    exact h1
theorem sbT {l : List PyData} {n k : Nat} (h : ShowBs l n k) : ShowB (.tuple l) (n + 3) (k + 1) := ⟨by simpa [PyData.showable] using h.sh, by simpa [PyData.hasDict] using h.nd, by have := h.dp; simp only [PyData.depth]; omega, by
  have := PySem.tupleText_len_le (PyData.shownAll l)
  have := h.ln
  rw [shownAll_len] at *
  simp only [PyData.shown]; omega⟩
theorem sbL {l : List PyData} {n k : Nat} (h : ShowBs l n k) : ShowB (.list l) (n + 3) (k + 1) := ⟨by simpa [PyData.showable] using h.sh, by simpa [PyData.hasDict] using h.nd, by have := h.dp; simp only [PyData.depth]; omega, by
  have := PySem.listText_len_le (PyData.shownAll l)
  have := h.ln
  rw [shownAll_len] at *
  simp only [PyData.shown]; omega⟩
theorem ShowB.mono {d : PyData} {n k n' k' : Nat} (h : ShowB d n k) (hn : n ≤ n') (hk : k ≤ k') : ShowB d n' k' := ⟨h.sh, h.nd, Nat.le_trans h.dp hk, Nat.le_trans h.ln hn⟩
theorem sbO {α : Type} {D : α → PyData} {o : Option α} {n k : Nat} (h : ∀ a, o = some a → ShowB (D a) n k) (hn : 5 ≤ n) (hk : 1 ≤ k) : ShowB (dOf D o) n k := by
  cases o with
  | none => exact sbN.mono hn hk
  | some a => exact h a rfl
section
variable {α β γ δ τ : Type} {X : Cx} {m : Am} {d d1 d2 d3 : Nat} {B : Wd} {Γ Γ' : Env} {e a b : Expr} {A : Rep α} {C : Rep γ} {A2 : Rep β} {P P' : γ → Prop} {pos p' : Pos} {K : Kn α} {rest body els sts : List Stmt} {st : Stmt}
theorem ge_min2P {P1 P2 : Int → Prop} {q1 : Pos} (hc : X.calm = true) (hm : X.mg "min" = none) (ha : GE X m d a Γ jI P1 d1) (hb : GE X m d1 b Γ jI P2 d2) (hg : Gl X "min" := by rfl) (he : starEach [a, b] X.env = (false, eval a X.env) :: starEach [b] X.env := by rfl)
    (hpl : (backTo pos (starEach [b] X.env)).any (·.1) = false := by rfl) (hst2 : starEach [b] X.env = (false, eval b X.env) :: starEach [] X.env := by rfl) : GE X m d (.Call (.Name "min" q1) [a, b] [] pos) Γ jI (fun z => ∃ x y, P1 x ∧ P2 y ∧ z = min x y) d2 :=
  ge_b2 (id' := "min") (call_min2 hc) cv_min hm ha hb (fun _ _ _ _ => trivial) hg (by decide +kernel) (by decide) (by decide) he hpl hst2
theorem ge_stGF {ra : ARep τ} {pre : τ → Prop} {R : Rep α} {post : τ → α → Prop} {cost : τ → Nat} {p L Cc : Addr} {x : Str} {q1 : Pos} {es : List Expr} {k k0 : Nat} {ps : List Str} {t : τ} {CX : CXT} {E : XK} (F : FnAtG X.prog X.w X.K X.mg X.base CX k x ps (spS ⟨ra, pre, R, post, cost⟩)) (hgd : X.A.guards = some []) (hr : Room k0 X.A) (hk : k ≤ k0) (hx : Passes CX X E)
    (h0 : GE X (dm p L Cc) d e Γ jV (fun z => z = .ref p) d) (ha : GA X (dm p L Cc) d es Γ ra (fun z => z = t) d1) (hp : pre t) (hd : d1 + cost t ≤ lim)
    (hg : Gl X x := by rfl) (hdb : (x == ("__debug__" : Str)) = false := by decide) (he : starEach (e :: es) X.env = (false, eval e X.env) :: starEach es X.env := by rfl) (hpl : (backTo pos (starEach es X.env)).any (·.1) = false := by rfl) :
    GE X (dm p L Cc) d (.Call (.Name x q1) (e :: es) [] pos) Γ R (post t) (d1 + cost t) :=
  (ge_stG F hgd hr hk hx h0 ha (n := cost t) (fun t' e => by rw [show t' = t from e]; exact ⟨hp, Nat.le_refl _⟩) hd hg hdb he hpl).imp fun z ⟨t', e1, e2⟩ => by have e1 : t' = t := e1; subst e1; exact e2
theorem ge_stGP {ra : ARep τ} {pre : τ → Prop} {R : Rep α} {post : τ → α → Prop} {cost : τ → Nat} {p L Cc : Addr} {x : Str} {q1 : Pos} {es : List Expr} {k k0 : Nat} {ps : List Str} {P1 : τ → Prop} {P2 : α → Prop} {CX : CXT} {E : XK} (F : FnAtG X.prog X.w X.K X.mg X.base CX k x ps (spS ⟨ra, pre, R, post, cost⟩)) (hgd : X.A.guards = some []) (hr : Room k0 X.A) (hk : k ≤ k0) (hx : Passes CX X E)
    (n : Nat) (h0 : GE X (dm p L Cc) d e Γ jV (fun z => z = .ref p) d) (ha : GA X (dm p L Cc) d es Γ ra P1 d1) (hp : ∀ t, P1 t → pre t ∧ cost t ≤ n) (h2 : ∀ t a, P1 t → post t a → P2 a) (hd : d1 + n ≤ lim)
    (hg : Gl X x := by rfl) (hdb : (x == ("__debug__" : Str)) = false := by decide) (he : starEach (e :: es) X.env = (false, eval e X.env) :: starEach es X.env := by rfl) (hpl : (backTo pos (starEach es X.env)).any (·.1) = false := by rfl) :
    GE X (dm p L Cc) d (.Call (.Name x q1) (e :: es) [] pos) Γ R P2 (d1 + n) :=
  (ge_stG F hgd hr hk hx h0 ha (n := n) hp hd hg hdb he hpl).imp fun z ⟨t', e1, e2⟩ => h2 t' z e1 e2
/-- the script -/
def jSq (K : PySem.W.Frag) : Rep (List Int) := ⟨fun S v ns => ∃ a, v = .ref a ∧ SqL K S a (ns.map V.int) ∧ ns.length ≤ 63, fun s ⟨a, e, h, z⟩ => ⟨a, e, Same.seq s h, z⟩⟩
theorem ge_lenSq {l : List Int} {q1 : Pos} (hm : X.mg "len" = none) (ha : GE X m d e Γ (jSq X.K) (fun z => z = l) d1) (hg : Gl X "len" := by rfl) (he : starEach [e] X.env = (false, eval e X.env) :: starEach [] X.env := by rfl) : GE X m d (.Call (.Name "len" q1) [e] [] pos) Γ jI (fun z => z = (l.length : Int)) d1 :=
  ge_of (pe_callB call_len_seq hg hm PySem.boot_len (pa_cons pe_w pa_nil he) (by decide) (by decide) he) fun σ W g eo Q q => ha σ W g eo _ fun v y W1 p1 l1 r1 => by
    obtain ⟨a, e1, h1, h2⟩ := r1
    exact ⟨a, y.map V.int, by rw [e1], .inl (Same.seq (fun a o h => l1.good.sub a o h) h1), q _ _ W1 (by rw [List.length_map, p1]) l1 rfl⟩
end
/-! ### a law -/
def spBegun (K : PySem.W.Frag) : Sp := fun vs H Q _ => ∃ (a : Addr) (ns : List Int), vs = [.ref a] ∧ SqL K H a (ns.map V.int) ∧ ns.length ≤ 63 ∧
  ∀ p L Cc H', H p = none → H L = none → H Cc = none → Same H H' → Draw p L Cc 0 H' → Q (.ref p) H'
def spLaw (K : PySem.W.Frag) : Sp := fun vs H Q _ => ∃ (a : Addr) (ns : List Int), vs = [.ref a] ∧ SqL K H a (ns.map V.int) ∧ ns.length ≤ 63 ∧ ∀ H', Q (.bl true) H'
section
variable {Pg : Program} {w : World} {Kf' : PySem.W.Frag} {mg : Str → Option Value} {base : Heap}
theorem fn_law {stt : Stmt} {f : Addr} {fd : FuncData} {N : List Str} {rest : List Stmt} {p1 p2 p3 p4 p5 : Pos} {k k0 : Nat} (F : Fun Kf' "law" "law" stt f fd) (S : FnScope N ["script"] (defScope stt)) (hbody : defBody stt = .Assign [.Name "state" p1] (.Call (.Name "_law_begun" p2) [.Name "script" p3] [] p4) p5 :: rest)
    (Gb : FnAt Pg w Kf' mg base CX0 k0 "_law_begun" ["script"] (spBegun Kf')) (hk : k0 ≤ k) (hN0 : N[0]? = some ("script" : Str)) (hN1 : N[1]? = some ("state" : Str)) (hN2 : 2 ≤ N.length)
    (hg : ∀ (cdv : Value) (A : Around) (outer : List PySem.Env) (s : Shared) (H : Hp) (E : XK), Gl (cxOf CX0 Pg w Kf' mg base N "law" (defScope stt) f cdv A outer s H E).nox ("_law_begun" : Str) ∧ Loc (cxOf CX0 Pg w Kf' mg base N "law" (defScope stt) f cdv A outer s H E).nox.env.scope ("state" : Str) ∧
      Vis (cxOf CX0 Pg w Kf' mg base N "law" (defScope stt) f cdv A outer s H E).nox.env.scope ("script" : Str) ∧
      ((cxOf CX0 Pg w Kf' mg base N "law" (defScope stt) f cdv A outer s H E).nox.fn ("state" : Str) = true ∨ (cxOf CX0 Pg w Kf' mg base N "law" (defScope stt) f cdv A outer s H E).nox.env.scope.names.lookup ("state" : Str) = some .local))
    (hb : ∀ (cdv : Value) (A : Around) (outer : List PySem.Env) (s : Shared) (H : Hp) (E : XK) (B : Wd) (p L Cc : Addr) (ns : List Int), A.guards = some [] → Room k (A.deeper (PyProof.Rows.envOfC "law" (defScope stt) s.heap.objs.size f cdv)) → ns.length ≤ 63 →
      GS (cxOf CX0 Pg w Kf' mg base N "law" (defScope stt) f cdv A outer s H E).nox (dm p L Cc) 0 B rest (some (.pv (jSq Kf') ns) :: some (.pv jV (.ref p)) :: List.replicate (N.length - 2) none) (Kf jB (fun b => b = true) lim)) : FnOkG Pg w Kf' mg base CX0 (k + 1) f fd ["script"] (spLaw Kf') := by
  refine F.okG S (fun vs H Q E h => ?_) (fun cdv A outer s H vs Q E hgd hr h => ?_)
  · obtain ⟨a, ns, rfl, _⟩ := h; rfl
  · obtain ⟨a, ns, rfl, hS, hlen, k'⟩ := h
    obtain ⟨g1, g2, g3, g4⟩ := hg cdv A outer s H E
    obtain ⟨fb, fdb, hm, hk', hbd, Fb⟩ := Gb.ex
    rw [hbody]
    refine ⟨_, pss_cons (ps_set S.nd hN1 g2 (pe_call Fb (hr.mono hk) g1 hm hk' hbd .nil pass0 (pa_cons (pe_var hN0 g3 (by decide) (by decide)) pa_nil rfl) (by decide) rfl rfl) rfl g4) pss_w, ?_⟩
    have h0 : (start N [V.ref a])[0]? = some (some (V.ref a)) := by
      unfold L2.start
      rfl
    refine ⟨_, h0, a, ns, rfl, hS, hlen, fun p L Cc H' hp hL hC sm dr => ?_⟩
    have out : ∀ b, (dm p L Cc).F b → H b = none := by
      rintro b (rfl | rfl | rfl)
      · exact hp
      · exact hL
      · exact hC
    have good : Good (dm p L Cc) 0 ⟨H, H'⟩ := ⟨sm, dr, out⟩
    have hlen2 : (start N [V.ref a]).length = N.length := by unfold L2.start; simp; omega
    refine hb cdv A outer s H E ⟨H, H'⟩ p L Cc ns hgd hr hlen ⟨?_, ?_⟩ _ ⟨H, H'⟩ (Le.refl good) ⟨?_, ?_⟩ _ ⟨?_, ?_, ?_, ?_⟩
    · intro i β q O b hi
      match i with
      | 0 => simp at hi
      | 1 => simp at hi
      | i + 2 =>
        simp [List.getElem?_replicate] at hi
    · intro i j β γ q q' O b O' b' hi
      match i with
      | 0 => simp at hi
      | 1 => simp at hi
      | i + 2 =>
        simp [List.getElem?_replicate] at hi
    · rw [List.length_set, hlen2]; simp; omega
    · intro i e hi
      match i with
      | 0 =>
        simp at hi
        subst hi
        exact ⟨_, by rw [List.getElem?_set_ne (by decide)]; exact h0, a, rfl, hS, hlen⟩
      | 1 =>
        simp at hi
        subst hi
        exact ⟨_, List.getElem?_set_self (by rw [hlen2]; omega), rfl⟩
      | i + 2 =>
        simp [List.getElem?_replicate] at hi
    · rintro d Γ σ W ⟨hd, a, pa, ra⟩ l _ _ _
      exact absurd (show V.non = V.bl a from ra H) (by intro z; cases z)
    · intro v a W pa l ra
      rw [show v = V.bl a from ra, pa]; exact k' W.H
    · exact fun _ _ _ _ h => h.elim
    · exact fun _ _ _ _ h => h.elim
end
end Gm

set_option linter.all false
/-! least payments: the mathematics, no program in sight -/
namespace LeastM
abbrev PlanD := Int × Int × Int × Bool
def PlanOk (p : PlanD) : Prop := 0 ≤ p.1 ∧ p.1 ≤ 1000 ∧ 0 ≤ p.2.1 ∧ p.2.1 ≤ 1000 ∧ 1 ≤ p.2.2.1 ∧ p.2.2.1 ≤ 1000000
def monthW (p : PlanD) (b e : Int) : Int × Int × Int :=
  if b + b * p.1 / 1000 ≤ p.2.2.1 then (b * p.1 / 1000, b + b * p.1 / 1000, 0) else
  (b * p.1 / 1000, min (b + b * p.1 / 1000) (max p.2.2.1 (if p.2.2.2 = true then b * p.1 / 1000 + b * p.2.1 / 1000 else (b + b * p.1 / 1000) * p.2.1 / 1000) + e),
    b + b * p.1 / 1000 - min (b + b * p.1 / 1000) (max p.2.2.1 (if p.2.2.2 = true then b * p.1 / 1000 + b * p.2.1 / 1000 else (b + b * p.1 / 1000) * p.2.1 / 1000) + e))
def nxt (p : PlanD) (e b : Int) : Int := (monthW p b e).2.2
def wanted (p : PlanD) (b : Int) : Int := if p.2.2.2 = true then b * p.1 / 1000 + b * p.2.1 / 1000 else (b + b * p.1 / 1000) * p.2.1 / 1000
theorem mul_div_nonneg {a b : Int} (ha : 0 ≤ a) (hb : 0 ≤ b) : 0 ≤ a * b / 1000 := Int.ediv_nonneg (Int.mul_nonneg ha hb) (by decide)
theorem mul_div_le {a b : Int} (ha : 0 ≤ a) (hb : b ≤ 1000) : a * b / 1000 ≤ a := by
  have h : a * b ≤ a * 1000 := Int.mul_le_mul_of_nonneg_left hb ha
  omega
theorem nxt_eq (p : PlanD) (e b : Int) : nxt p e b = if b + b * p.1 / 1000 ≤ p.2.2.1 then 0 else b + b * p.1 / 1000 - min (b + b * p.1 / 1000) (max p.2.2.1 (wanted p b) + e) := by
  unfold nxt monthW wanted
  split <;> rfl
theorem wanted_nonneg {p : PlanD} (hp : PlanOk p) {b : Int} (hb : 0 ≤ b) : 0 ≤ wanted p b := by
  obtain ⟨h1, h2, h3, h4, h5, h6⟩ := hp
  have i := mul_div_nonneg hb h1
  have s := mul_div_nonneg hb h3
  have o := mul_div_nonneg (show 0 ≤ b + b * p.1 / 1000 by omega) h3
  unfold wanted
  split <;> omega
theorem wanted_le {p : PlanD} (hp : PlanOk p) {b : Int} (hb : 0 ≤ b) : wanted p b ≤ b + b * p.1 / 1000 := by
  obtain ⟨h1, h2, h3, h4, h5, h6⟩ := hp
  have i := mul_div_nonneg hb h1
  have s := mul_div_le hb h4
  have o := mul_div_le (show 0 ≤ b + b * p.1 / 1000 by omega) h4
  unfold wanted
  split <;> omega
theorem nxt_nonneg {p : PlanD} (e b : Int) : 0 ≤ nxt p e b := by
  rw [nxt_eq]
  split <;> omega
/-- x - x * s / 1000 rises -/
theorem keep_mono {s a b : Int} (h0 : 0 ≤ s) (h1 : s ≤ 1000) (h : a ≤ b) : a - a * s / 1000 ≤ b - b * s / 1000 := by
  have e : b * s = a * s + (b - a) * s := by rw [← Int.add_mul]; congr 1; omega
  have l : (b - a) * s ≤ (b - a) * 1000 := Int.mul_le_mul_of_nonneg_left h1 (by omega)
  have z : 0 ≤ (b - a) * s := Int.mul_nonneg (by omega) h0
  omega
theorem intr_mono {r a b : Int} (h0 : 0 ≤ r) (h : a ≤ b) : a * r / 1000 ≤ b * r / 1000 := by
  have := Int.mul_le_mul_of_nonneg_right h h0
  omega
/-- a greater balance has no lesser next one -/
theorem nxt_mono {p : PlanD} (hp : PlanOk p) {e a b : Int} (he : 0 ≤ e) (ha : 0 ≤ a) (h : a ≤ b) : nxt p e a ≤ nxt p e b := by
  have hp' := hp
  obtain ⟨h1, h2, h3, h4, h5, h6⟩ := hp
  have i := intr_mono h1 h
  have k1 := keep_mono h3 h4 h
  have k2 := keep_mono h3 h4 (show a + a * p.1 / 1000 ≤ b + b * p.1 / 1000 by omega)
  have w : a + a * p.1 / 1000 - wanted p a ≤ b + b * p.1 / 1000 - wanted p b := by
    unfold wanted
    split <;> omega
  rw [nxt_eq, nxt_eq]
  split
  · split
    · omega
    · omega
  · split
    · omega
    · omega
/-- when a balance is not made less -/
theorem bad_iff {p : PlanD} (hp : PlanOk p) {b : Int} (hb : 1 ≤ b) : b ≤ nxt p 0 b ↔ p.2.2.1 ≤ b * p.1 / 1000 ∧ wanted p b ≤ b * p.1 / 1000 := by
  have w0 := wanted_nonneg hp (show 0 ≤ b by omega)
  have w1 := wanted_le hp (show 0 ≤ b by omega)
  obtain ⟨h1, h2, h3, h4, h5, h6⟩ := hp
  have i := mul_div_nonneg (show 0 ≤ b by omega) h1
  rw [nxt_eq]
  split
  · constructor
    · intro h; omega
    · intro h; omega
  · constructor
    · intro h; constructor <;> omega
    · intro h; omega

/-! ### the row of balances -/
def rowW (p : PlanD) (e : Int) : Nat → Int → List Int
  | 0, b => [b]
  | n + 1, b => if 0 < b ∧ nxt p e b < b then b :: rowW p e n (nxt p e b) else [b]
def rowOf (p : PlanD) (e b : Int) : List Int := rowW p e b.toNat b
theorem rowW_enough (p : PlanD) (e : Int) : ∀ (n k : Nat) (b : Int), b.toNat ≤ n → b.toNat ≤ k → rowW p e n b = rowW p e k b
  | 0, 0, _, _, _ => rfl
  | 0, k + 1, b, h, _ => by
    unfold rowW
    rw [if_neg (by omega)]
  | n + 1, 0, b, _, h => by
    unfold rowW
    rw [if_neg (by omega)]
  | n + 1, k + 1, b, h1, h2 => by
    unfold rowW
    have h := nxt_nonneg (p := p) e b
    split
    · rw [rowW_enough p e n k (nxt p e b) (by omega) (by omega)]
    · rfl
theorem rowOf_eq (p : PlanD) (e b : Int) : rowOf p e b = if 0 < b ∧ nxt p e b < b then b :: rowOf p e (nxt p e b) else [b] := by
  unfold rowOf
  have h := nxt_nonneg (p := p) e b
  cases hn : b.toNat with
  | zero =>
    unfold rowW
    rw [if_neg (by omega)]
  | succ n =>
    rw [rowW]
    split
    · rw [rowW_enough p e n (nxt p e b).toNat (nxt p e b) (by omega) (by omega)]
    · rfl
theorem rowOf_ne (p : PlanD) (e b : Int) : rowOf p e b ≠ [] := by
  rw [rowOf_eq]; split <;> simp
/-- the last one -/
def lastOf (p : PlanD) (e b : Int) : Int := (rowOf p e b).getLast (rowOf_ne p e b)
theorem lastOf_eq (p : PlanD) (e b : Int) : lastOf p e b = if 0 < b ∧ nxt p e b < b then lastOf p e (nxt p e b) else b := by
  unfold lastOf
  by_cases h : 0 < b ∧ nxt p e b < b
  · rw [if_pos h]
    have h' := rowOf_eq p e b
    rw [if_pos h] at h'
    simp only [h']
    rw [List.getLast_cons (rowOf_ne p e _)]
  · rw [if_neg h]
    have h' := rowOf_eq p e b
    rw [if_neg h] at h'
    simp only [h', List.getLast_singleton]
theorem row_ind {P : Int → Prop} (p : PlanD) (e : Int) (h1 : ∀ b, ¬ (0 < b ∧ nxt p e b < b) → P b) (h2 : ∀ b, 0 < b ∧ nxt p e b < b → P (nxt p e b) → P b) : ∀ b, P b := by
  have : ∀ (n : Nat) (b : Int), b.toNat ≤ n → P b := by
    intro n
    induction n with
    | zero => intro b h; exact h1 b (by omega)
    | succ n ih =>
      intro b h
      by_cases q : 0 < b ∧ nxt p e b < b
      · have := nxt_nonneg (p := p) e b
        exact h2 b q (ih _ (by omega))
      · exact h1 b q
  exact fun b => this b.toNat b (Nat.le_refl _)
theorem last_stop (p : PlanD) (e : Int) : ∀ b, ¬ (0 < lastOf p e b ∧ nxt p e (lastOf p e b) < lastOf p e b) := by
  refine row_ind p e (fun b h => ?_) (fun b h ih => ?_)
  · rw [lastOf_eq, if_neg h]; exact h
  · rw [lastOf_eq, if_pos h]; exact ih
theorem last_le (p : PlanD) (e : Int) : ∀ b, 0 ≤ b → 0 ≤ lastOf p e b ∧ lastOf p e b ≤ b := by
  refine row_ind p e (fun b h hb => ?_) (fun b h ih hb => ?_)
  · rw [lastOf_eq, if_neg h]; omega
  · rw [lastOf_eq, if_pos h]
    have := ih (nxt_nonneg e b)
    omega
theorem last_zero {p : PlanD} {e : Int} : ∀ b, 0 ≤ b → (∀ c, 1 ≤ c → c ≤ b → nxt p e c < c) → lastOf p e b = 0 := by
  intro b hb h
  have h1 := last_stop p e b
  have h2 := last_le p e b hb
  by_cases z : lastOf p e b = 0
  · exact z
  · exact absurd ⟨by omega, h _ (by omega) h2.2⟩ h1
theorem last_ge {p : PlanD} (hp : PlanOk p) {g : Int} (hg : 1 ≤ g) (hs : g ≤ nxt p 0 g) : ∀ b, g ≤ b → g ≤ lastOf p 0 b := by
  refine row_ind p 0 (fun b h hb => ?_) (fun b h ih hb => ?_)
  · rw [lastOf_eq, if_neg h]; exact hb
  · rw [lastOf_eq, if_pos h]
    refine ih ?_
    have := nxt_mono hp (Int.le_refl 0) (show 0 ≤ g by omega) hb
    omega
theorem row_len (p : PlanD) (e : Int) : ∀ b, (rowOf p e b).length ≤ b.toNat + 1 := by
  refine row_ind p e (fun b h => ?_) (fun b h ih => ?_)
  · rw [rowOf_eq, if_neg h]; simp
  · rw [rowOf_eq, if_pos h]
    have := nxt_nonneg (p := p) e b
    simp only [List.length_cons]
    omega
theorem row_mem (p : PlanD) (e : Int) : ∀ b, 0 ≤ b → ∀ c ∈ rowOf p e b, 0 ≤ c ∧ c ≤ b := by
  refine row_ind p e (fun b h hb c hc => ?_) (fun b h ih hb c hc => ?_)
  · rw [rowOf_eq, if_neg h] at hc
    simp at hc; omega
  · rw [rowOf_eq, if_pos h] at hc
    have := nxt_nonneg (p := p) e b
    rcases List.mem_cons.mp hc with e1 | hc
    · omega
    · have := ih (nxt_nonneg e b) c hc
      omega

/-! ### the least endless balance -/
/-- the least balance with so much interest -/
def ceilW (p : PlanD) (i : Int) : Int := -(-i * 1000 / p.1)
def ok (p : PlanD) (b : Int) : Bool := decide (b ≤ nxt p 0 b)
/-- the law's own search -/
def scan (p : PlanD) : Nat → Int → Option Int
  | 0, _ => none
  | n + 1, i => if (1000 * i + p.1 - 1) / p.1 ≤ nxt p 0 ((1000 * i + p.1 - 1) / p.1) then some ((1000 * i + p.1 - 1) / p.1) else scan p n (i + 1)
def firstW (p : PlanD) : Option Int := scan p p.1.toNat p.2.2.1
theorem ceil_eq {p : PlanD} (h : 1 ≤ p.1) (i : Int) : ceilW p i = (1000 * i + p.1 - 1) / p.1 := by
  unfold ceilW
  have hpos : 0 < p.1 := by omega
  have a1 := Int.mul_ediv_add_emod (1000 * i + p.1 - 1) p.1
  have a2 := Int.emod_nonneg (1000 * i + p.1 - 1) (show p.1 ≠ 0 by omega)
  have a3 := Int.emod_lt_of_pos (1000 * i + p.1 - 1) hpos
  have b1 := Int.mul_ediv_add_emod (-i * 1000) p.1
  have b2 := Int.emod_nonneg (-i * 1000) (show p.1 ≠ 0 by omega)
  have b3 := Int.emod_lt_of_pos (-i * 1000) hpos
  have key : p.1 * ((1000 * i + p.1 - 1) / p.1 + (-i * 1000) / p.1) = p.1 * ((1000 * i + p.1 - 1) / p.1) + p.1 * ((-i * 1000) / p.1) := Int.mul_add ..
  have lo : p.1 * ((1000 * i + p.1 - 1) / p.1 + (-i * 1000) / p.1) < p.1 * 1 := by omega
  have hi : p.1 * (-1) < p.1 * ((1000 * i + p.1 - 1) / p.1 + (-i * 1000) / p.1) := by omega
  have l1 := Int.lt_of_mul_lt_mul_left lo (by omega)
  have l2 := Int.lt_of_mul_lt_mul_left hi (by omega)
  omega
/-- c is the least balance with the interest i -/
theorem ceil_spec {p : PlanD} (h : 1 ≤ p.1) (i : Int) : 1000 * i ≤ (1000 * i + p.1 - 1) / p.1 * p.1 ∧ (1000 * i + p.1 - 1) / p.1 * p.1 ≤ 1000 * i + p.1 - 1 := by
  have a1 := Int.mul_ediv_add_emod (1000 * i + p.1 - 1) p.1
  have a2 := Int.emod_nonneg (1000 * i + p.1 - 1) (show p.1 ≠ 0 by omega)
  have a3 := Int.emod_lt_of_pos (1000 * i + p.1 - 1) (show 0 < p.1 by omega)
  rw [Int.mul_comm] at a1
  omega
theorem ceil_intr {p : PlanD} (h : 1 ≤ p.1) (h2 : p.1 ≤ 1000) (i : Int) : (1000 * i + p.1 - 1) / p.1 * p.1 / 1000 = i := by
  have := ceil_spec h i
  omega
theorem ceil_least {p : PlanD} (h : 1 ≤ p.1) {b : Int} (i : Int) (hb : i ≤ b * p.1 / 1000) : (1000 * i + p.1 - 1) / p.1 ≤ b := by
  have s := ceil_spec h i
  have : (1000 * i + p.1 - 1) / p.1 * p.1 < (b + 1) * p.1 := by
    have e : (b + 1) * p.1 = b * p.1 + p.1 := by rw [Int.add_mul, Int.one_mul]
    omega
  have := Int.lt_of_mul_lt_mul_right this (by omega)
  omega
theorem ceil_pos {p : PlanD} (h : 1 ≤ p.1) {i : Int} (hi : 1 ≤ i) : 1 ≤ (1000 * i + p.1 - 1) / p.1 := by
  have s := ceil_spec h i
  by_cases z : (1000 * i + p.1 - 1) / p.1 ≤ 0
  · have := Int.mul_le_mul_of_nonneg_right z (show 0 ≤ p.1 by omega)
    omega
  · omega
theorem wanted_mono {p : PlanD} (hp : PlanOk p) {a b : Int} (ha : 0 ≤ a) (h : a ≤ b) : wanted p a ≤ wanted p b := by
  obtain ⟨h1, h2, h3, h4, h5, h6⟩ := hp
  have i := intr_mono h1 h
  have j := intr_mono h3 h
  have k := intr_mono h3 (show a + a * p.1 / 1000 ≤ b + b * p.1 / 1000 by omega)
  unfold wanted
  split <;> omega
/-- where the search finds nothing, nothing is -/
def cond (p : PlanD) (i : Int) : Prop := wanted p ((1000 * i + p.1 - 1) / p.1) ≤ i
theorem cond_iff {p : PlanD} (hp : PlanOk p) (h : 1 ≤ p.1) {i : Int} (hi : p.2.2.1 ≤ i) : (1000 * i + p.1 - 1) / p.1 ≤ nxt p 0 ((1000 * i + p.1 - 1) / p.1) ↔ cond p i := by
  have hc := ceil_intr h hp.2.1 i
  have := hp.2.2.2.2.1
  rw [bad_iff hp (ceil_pos h (by omega)), hc]
  exact ⟨fun q => q.2, fun q => ⟨hi, q⟩⟩
theorem cond_of {p : PlanD} (hp : PlanOk p) (h : 1 ≤ p.1) {b : Int} (hb : 1 ≤ b) (hs : b ≤ nxt p 0 b) : p.2.2.1 ≤ b * p.1 / 1000 ∧ cond p (b * p.1 / 1000) ∧ (1000 * (b * p.1 / 1000) + p.1 - 1) / p.1 ≤ b := by
  rw [bad_iff hp hb] at hs
  have hl := ceil_least h (b * p.1 / 1000) (Int.le_refl _)
  have hpos := ceil_pos h (show 1 ≤ b * p.1 / 1000 by have := hp.2.2.2.2.1; omega)
  have := wanted_mono hp (show 0 ≤ (1000 * (b * p.1 / 1000) + p.1 - 1) / p.1 by omega) hl
  exact ⟨hs.1, by unfold cond; omega, hl⟩
theorem ceil_add {p : PlanD} (h : 1 ≤ p.1) (i k : Int) : (1000 * (i + k * p.1) + p.1 - 1) / p.1 = (1000 * i + p.1 - 1) / p.1 + 1000 * k := by
  have e : 1000 * (i + k * p.1) + p.1 - 1 = (1000 * i + p.1 - 1) + (1000 * k) * p.1 := by
    rw [Int.mul_add, Int.mul_assoc]; omega
  rw [e, Int.add_mul_ediv_right _ _ (by omega)]
theorem cond_plus {p : PlanD} (hp : PlanOk p) (h : 1 ≤ p.1) (hq : p.2.2.2 = true) (i : Int) : cond p i ↔ (1000 * i + p.1 - 1) / p.1 * p.2.1 < 1000 := by
  unfold cond wanted
  rw [if_pos hq, ceil_intr h hp.2.1]
  constructor <;> intro q <;> omega
theorem cond_minus {p : PlanD} (hp : PlanOk p) (h : 1 ≤ p.1) (hq : p.2.2.2 = false) (i : Int) : cond p i ↔ ((1000 * i + p.1 - 1) / p.1 + i) * p.2.1 < 1000 * (i + 1) := by
  unfold cond wanted
  rw [if_neg (by simp [hq]), ceil_intr h hp.2.1]
  constructor <;> intro q <;> omega
def over (p : PlanD) : Int := p.2.1 * (1000 + p.1) - 1000 * p.1
theorem cond_all {p : PlanD} (hp : PlanOk p) (h : 1 ≤ p.1) (hq : p.2.2.2 = false) (ho : over p ≤ 0) {i : Int} (hi : 0 ≤ i) : cond p i := by
  rw [cond_minus hp h hq]
  have s := (ceil_spec h i).2
  obtain ⟨h1, h2, h3, h4, h5, h6⟩ := hp
  generalize (1000 * i + p.1 - 1) / p.1 = c at s ⊢
  obtain ⟨r, sh, le, pl⟩ := p
  dsimp only at *
  unfold over at ho
  dsimp only at ho
  have a1 : (c + i) * r ≤ i * (1000 + r) + (r - 1) := by rw [Int.add_mul, Int.mul_add]; omega
  have a2 : (c + i) * r * sh ≤ (i * (1000 + r) + (r - 1)) * sh := Int.mul_le_mul_of_nonneg_right a1 h3
  have a3 : i * (sh * (1000 + r)) ≤ i * (1000 * r) := Int.mul_le_mul_of_nonneg_left (by omega) hi
  have a4 : (r - 1) * sh ≤ (r - 1) * 1000 := Int.mul_le_mul_of_nonneg_left h4 (by omega)
  have e1 : (i * (1000 + r) + (r - 1)) * sh = i * (sh * (1000 + r)) + (r - 1) * sh := by rw [Int.add_mul, Int.mul_assoc, Int.mul_comm (1000 + r) sh]
  have e2 : (c + i) * r * sh = (c + i) * sh * r := by rw [Int.mul_assoc, Int.mul_comm r sh, ← Int.mul_assoc]
  have e3 : i * (1000 * r) = 1000 * i * r := by rw [← Int.mul_assoc, Int.mul_comm i 1000]
  have e4 : 1000 * (i + 1) * r = 1000 * i * r + 1000 * r := by rw [Int.mul_add, Int.add_mul]; omega
  have : (c + i) * sh * r < 1000 * (i + 1) * r := by omega
  exact Int.lt_of_mul_lt_mul_right this (by omega)
theorem cond_bound {p : PlanD} (hp : PlanOk p) (h : 1 ≤ p.1) (hq : p.2.2.2 = false) {i : Int} (hi : 0 ≤ i) (hc : cond p i) : i * over p < 1000 * p.1 := by
  rw [cond_minus hp h hq] at hc
  have s := (ceil_spec h i).1
  obtain ⟨h1, h2, h3, h4, h5, h6⟩ := hp
  generalize (1000 * i + p.1 - 1) / p.1 = c at s hc
  obtain ⟨r, sh, le, pl⟩ := p
  dsimp only at *
  unfold over
  dsimp only
  have a1 : i * (1000 + r) ≤ (c + i) * r := by rw [Int.add_mul, Int.mul_add]; omega
  have a2 : i * (1000 + r) * sh ≤ (c + i) * r * sh := Int.mul_le_mul_of_nonneg_right a1 h3
  have a3 : (c + i) * sh * r < 1000 * (i + 1) * r := Int.mul_lt_mul_of_pos_right hc (by omega)
  have e1 : i * (sh * (1000 + r) - 1000 * r) = i * (1000 + r) * sh - 1000 * i * r := by rw [Int.mul_sub, Int.mul_comm sh, ← Int.mul_assoc, ← Int.mul_assoc, Int.mul_comm i 1000]
  have e2 : (c + i) * r * sh = (c + i) * sh * r := by rw [Int.mul_assoc, Int.mul_comm r sh, ← Int.mul_assoc]
  have e4 : 1000 * (i + 1) * r = 1000 * i * r + 1000 * r := by rw [Int.mul_add, Int.add_mul]; omega
  omega
theorem cond_down {p : PlanD} (hp : PlanOk p) (h : 1 ≤ p.1) {i : Int} (hi : 0 ≤ i) (hc : cond p (i + p.1)) : cond p i := by
  have ca : (1000 * (i + p.1) + p.1 - 1) / p.1 = (1000 * i + p.1 - 1) / p.1 + 1000 := by
    have := ceil_add h i 1
    rw [Int.one_mul] at this; omega
  have h3 := hp.2.2.1
  cases hq : p.2.2.2 with
  | true =>
    rw [cond_plus hp h hq] at hc ⊢
    rw [ca, Int.add_mul] at hc
    omega
  | false =>
    by_cases ho : over p ≤ 0
    · exact cond_all hp h hq ho hi
    · rw [cond_minus hp h hq] at hc ⊢
      rw [ca] at hc
      unfold over at ho
      generalize (1000 * i + p.1 - 1) / p.1 = c at hc ⊢
      have e : (c + 1000 + (i + p.1)) * p.2.1 = (c + i) * p.2.1 + p.2.1 * (1000 + p.1) := by
        rw [Int.mul_comm p.2.1, ← Int.add_mul]; congr 1; omega
      omega
theorem cond_downs {p : PlanD} (hp : PlanOk p) (h : 1 ≤ p.1) : ∀ (k : Nat) {i : Int}, 0 ≤ i → cond p (i + k * p.1) → cond p i
  | 0, i, _, hc => by simpa using hc
  | k + 1, i, hi, hc => by
    refine cond_downs hp h k hi (cond_down hp h (by have := Int.mul_nonneg (show (0 : Int) ≤ k by omega) hp.1; omega) ?_)
    have e : i + (k : Int) * p.1 + p.1 = i + ((k + 1 : Nat) : Int) * p.1 := by
      rw [show ((k + 1 : Nat) : Int) = (k : Int) + 1 by omega, Int.add_mul, Int.one_mul]; omega
    rw [e]; exact hc
theorem ceil_mono {p : PlanD} (h : 1 ≤ p.1) {i j : Int} (hij : i ≤ j) : (1000 * i + p.1 - 1) / p.1 ≤ (1000 * j + p.1 - 1) / p.1 := Int.ediv_le_ediv (by omega) (by omega)
theorem scan_none {p : PlanD} (hp : PlanOk p) (h : 1 ≤ p.1) : ∀ (n : Nat) (i : Int), p.2.2.1 ≤ i → (∀ j, i ≤ j → j < i + n → ¬ cond p j) → scan p n i = none
  | 0, _, _, _ => rfl
  | n + 1, i, hi, hj => by
    unfold scan
    rw [if_neg (fun q => hj i (Int.le_refl _) (by omega) ((cond_iff hp h hi).mp q))]
    exact scan_none hp h n (i + 1) (by omega) fun j h1 h2 => hj j (by omega) (by omega)
theorem scan_some {p : PlanD} (hp : PlanOk p) (h : 1 ≤ p.1) : ∀ (n : Nat) (i k : Int), p.2.2.1 ≤ i → i ≤ k → k < i + n → cond p k → (∀ j, i ≤ j → j < k → ¬ cond p j) → scan p n i = some ((1000 * k + p.1 - 1) / p.1)
  | 0, _, _, _, h1, h2, _, _ => by omega
  | n + 1, i, k, hi, h1, h2, hc, hj => by
    unfold scan
    by_cases e : i = k
    · subst e
      rw [if_pos ((cond_iff hp h hi).mpr hc)]
    · rw [if_neg (fun q => hj i (Int.le_refl _) (by omega) ((cond_iff hp h hi).mp q))]
      exact scan_some hp h n (i + 1) k (by omega) (by omega) (by omega) hc fun j h3 h4 => hj j (by omega) h4
theorem first_some {p : PlanD} (hp : PlanOk p) (h : 1 ≤ p.1) {k : Int} (h1 : p.2.2.1 ≤ k) (hc : cond p k) (hj : ∀ j, p.2.2.1 ≤ j → j < k → ¬ cond p j) : firstW p = some ((1000 * k + p.1 - 1) / p.1) := by
  have hl := hp.2.2.2.2.1
  by_cases hk : k < p.2.2.1 + p.1
  · exact scan_some hp h _ _ _ (Int.le_refl _) h1 (by omega) hc hj
  · refine absurd (cond_down hp h (show 0 ≤ k - p.1 by omega) ?_) (hj (k - p.1) (by omega) (by omega))
    rw [show k - p.1 + p.1 = k by omega]; exact hc
theorem first_none {p : PlanD} (hp : PlanOk p) (hj : 1 ≤ p.1 → ∀ j, p.2.2.1 ≤ j → ¬ cond p j) : firstW p = none := by
  unfold firstW
  by_cases h : 1 ≤ p.1
  · exact scan_none hp h _ _ (Int.le_refl _) fun j h1 _ => hj h j h1
  · have := hp.1
    rw [show p.1.toNat = 0 by omega]; rfl
/-- either there is a first one, or none -/
theorem first_cases {p : PlanD} (hp : PlanOk p) : (∃ k, 1 ≤ p.1 ∧ p.2.2.1 ≤ k ∧ k < p.2.2.1 + p.1 ∧ cond p k ∧ (∀ j, p.2.2.1 ≤ j → j < k → ¬ cond p j) ∧ firstW p = some ((1000 * k + p.1 - 1) / p.1)) ∨
    (firstW p = none ∧ (1 ≤ p.1 → ∀ j, p.2.2.1 ≤ j → ¬ cond p j)) := by
  by_cases h : 1 ≤ p.1
  · have search : ∀ n : Nat, (∃ k, p.2.2.1 ≤ k ∧ k < p.2.2.1 + n ∧ cond p k ∧ ∀ j, p.2.2.1 ≤ j → j < k → ¬ cond p j) ∨ ∀ j, p.2.2.1 ≤ j → j < p.2.2.1 + n → ¬ cond p j := by
      intro n
      induction n with
      | zero => exact .inr fun j h1 h2 => by omega
      | succ n ih =>
        rcases ih with ⟨k, h1, h2, h3⟩ | h1
        · exact .inl ⟨k, h1, by omega, h3⟩
        · by_cases hc : cond p (p.2.2.1 + n)
          · exact .inl ⟨_, by omega, by omega, hc, fun j h2 h3 => h1 j h2 h3⟩
          · refine .inr fun j h2 h3 => ?_
            by_cases e : j = p.2.2.1 + n
            · rw [e]; exact hc
            · exact h1 j h2 (by omega)
    rcases search p.1.toNat with ⟨k, h1, h2, h3, h4⟩ | h1
    · exact .inl ⟨k, h, h1, by omega, h3, h4, first_some hp h h1 h3 h4⟩
    · have all : ∀ j, p.2.2.1 ≤ j → ¬ cond p j := by
        intro j hj hc
        have hl := hp.2.2.2.2.1
        have q1 := Int.mul_ediv_add_emod (j - p.2.2.1) p.1
        have q2 := Int.emod_nonneg (j - p.2.2.1) (show p.1 ≠ 0 by omega)
        have q3 := Int.emod_lt_of_pos (j - p.2.2.1) (show 0 < p.1 by omega)
        have q4 : 0 ≤ (j - p.2.2.1) / p.1 := Int.ediv_nonneg (by omega) (by omega)
        refine h1 (p.2.2.1 + (j - p.2.2.1) % p.1) (by omega) (by omega) (cond_downs hp h ((j - p.2.2.1) / p.1).toNat (by omega) ?_)
        rw [show (((j - p.2.2.1) / p.1).toNat : Int) = (j - p.2.2.1) / p.1 by omega, Int.mul_comm]
        rw [show p.2.2.1 + (j - p.2.2.1) % p.1 + p.1 * ((j - p.2.2.1) / p.1) = j by omega]; exact hc
      exact .inr ⟨first_none hp fun _ => all, fun _ => all⟩
  · exact .inr ⟨first_none hp fun q => absurd q h, fun q => absurd q h⟩
/-- the first one is the least balance that is not made less -/
theorem first_least {p : PlanD} (hp : PlanOk p) {c : Int} (hf : firstW p = some c) : 1 ≤ c ∧ c ≤ 2000000000 ∧ c ≤ nxt p 0 c ∧ ∀ b, 1 ≤ b → b < c → nxt p 0 b < b := by
  rcases first_cases hp with ⟨k, h, h1, h2, h3, h4, h5⟩ | ⟨h5, _⟩
  · rw [hf] at h5
    cases h5
    have hl := hp.2.2.2.2.1
    have hl2 := hp.2.2.2.2.2
    have hr := hp.2.1
    have sp := ceil_spec h k
    refine ⟨ceil_pos h (by omega), ?_, (cond_iff hp h h1).mpr h3, fun b hb hlt => ?_⟩
    · have pos := ceil_pos h (show 1 ≤ k by omega)
      have := Int.mul_le_mul_of_nonneg_left h (show 0 ≤ (1000 * k + p.1 - 1) / p.1 by omega)
      omega
    · by_cases q : b ≤ nxt p 0 b
      · obtain ⟨a1, a2, a3⟩ := cond_of hp h hb q
        by_cases hlt2 : b * p.1 / 1000 < k
        · exact absurd a2 (h4 _ a1 hlt2)
        · have := ceil_mono h (show k ≤ b * p.1 / 1000 by omega)
          omega
      · omega
  · rw [hf] at h5; cases h5
theorem first_no {p : PlanD} (hp : PlanOk p) (hf : firstW p = none) : ∀ b, 1 ≤ b → nxt p 0 b < b := by
  intro b hb
  rcases first_cases hp with ⟨k, _, _, _, _, _, h5⟩ | ⟨_, h6⟩
  · rw [hf] at h5; cases h5
  · by_cases q : b ≤ nxt p 0 b
    · by_cases h : 1 ≤ p.1
      · obtain ⟨a1, a2, _⟩ := cond_of hp h hb q
        exact absurd a2 (h6 h _ a1)
      · have h1 := hp.1
        have h5 := hp.2.2.2.2.1
        rw [bad_iff hp hb] at q
        have hz : p.1 = 0 := by omega
        rw [hz] at q
        omega
    · omega
end LeastM

set_option Elab.async false
set_option linter.all false
set_option maxRecDepth 100000
set_option maxHeartbeats 4000000
namespace K29
open PySem L2 Gm LeastM
def topS (i : Nat) : Stmt := PySem.Challenge.pw_wholepaid_k29_whole_least_endless_of_all.main.body.getD i (.Pass ⟨0, 0, 0, 0⟩)
theorem lt_size {n : Nat} (h : (n : Int) < 3000000) : n < sizeLine := Nat.lt_of_lt_of_le (by omega : n < 3000000) (by decide)
theorem kit_self {K : PySem.W.Frag} {C : Addr} : PySem.W.kitOne K (.ref C) (.ref C) = some true := by
  unfold PySem.W.kitOne
  rw [if_pos (by simp)]
structure Ads where
  Plan : Addr
structure Txt (K : PySem.W.Frag) (mg : Str → Option Value) (ad : Ads) : Prop where
  n_int : mg "int" = none
  n_bool : mg "bool" = none
  n_str : mg "str" = none
  n_tuple : mg "tuple" = none
  n_isinstance : mg "isinstance" = none
  n_min : mg "min" = none
  n_max : mg "max" = none
  n_len : mg "len" = none
  n_sum : mg "sum" = none
  n_all : mg "all" = none
  n_list : mg "list" = none
  n_range : mg "range" = none
  n_repr : mg "repr" = none
  x_THOUSAND : ∃ u, mg "THOUSAND" = some u ∧ RelV (.int 1000) u
  x_MOST_LEAST : ∃ u, mg "MOST_LEAST" = some u ∧ RelV (.int 1000000) u
  x_MOST_BALANCE : ∃ u, mg "MOST_BALANCE" = some u ∧ RelV (.int 100000) u
  x_ENDS : ∃ u, mg "ENDS" = some u ∧ RelV (.str "ends") u
  x_NEVER : ∃ u, mg "NEVER" = some u ∧ RelV (.str "never") u
  g_Plan : mg "Plan" = some (.ref ad.Plan)
  cl_Plan : Cls K ad.Plan
  n_l_parts : NoAttr K ad.Plan "l_parts"
  isi1 : PySem.W.findIn K (.ref ad.Plan) "__class__" = some (some (.builtin "object.__class__"))
  isi2 : PySem.W.specialIn K (.builtin "object.__class__") "__get__" = some (some (.builtin "getset_descriptor.__get__"))
  isi3 : PySem.W.takesIn K (.builtin "object.__class__") = some true
  isi4 : PySem.W.mroIn K ad.Plan (.type "object") = some true
section
variable {P : Program} {w : World} {K : PySem.W.Frag} {mg : Str → Option Value} {base : Heap} {ad : Ads}
/-- a plan -/
def jPlan (ad : Ads) : Rep PlanD := ⟨fun H v t => ∃ p dx u, v = .ref p ∧ H p = some (.ins ad.Plan dx [("l_parts", u)]) ∧ (jT4 jI jI jI jB).r H u t, fun s ⟨p, dx, u, e, h, q⟩ => ⟨p, dx, u, e, s _ _ h, (jT4 jI jI jI jB).mono s q⟩⟩
theorem fv_parts (T : Txt K mg ad) : FldV K (jPlan ad) (jT4 jI jI jI jB) "l_parts" (fun p => p) := fun S v a ⟨p, dx, u, e, h, q⟩ =>
  ⟨p, ad.Plan, dx, _, u, e, h, T.cl_Plan, T.n_l_parts, by simp [List.lookup], q⟩
theorem isi_Plan (T : Txt K mg ad) : IsiV K (jPlan ad) (.ref ad.Plan) true := fun S v a ⟨p, dx, u, e, h, q⟩ =>
  ⟨.ref ad.Plan, .ref ad.Plan, .own _, fun H s => by rw [e]; exact .base (.ins (s _ _ h) T.cl_Plan T.isi1 T.isi2 T.isi3 T.isi4), kit_self⟩
end
end K29

set_option Elab.async false
set_option linter.all false
set_option maxRecDepth 100000
set_option maxHeartbeats 4000000
namespace K29
open PySem L2 Gm LeastM
section
variable {P : Program} {w : World} {K : PySem.W.Frag} {mg : Str → Option Value} {base : Heap} {ad : Ads}
/-! the draws -/
abbrev s_law_mixed : Stmt := topS 27
theorem sc_law_mixed : FnScope ["state", "found", "prime", "blend", "cell"] ["state"] (defScope s_law_mixed) := ⟨rfl, rfl, rfl, by decide +kernel, rfl, by decide +kernel, by decide +kernel⟩
abbrev s_law_take : Stmt := topS 28
theorem sc_law_take : FnScope ["state", "size", "found"] ["state", "size"] (defScope s_law_take) := ⟨rfl, rfl, rfl, by decide +kernel, rfl, by decide +kernel, by decide +kernel⟩
abbrev c_law_mixed (ad : Ads) : CtrS Unit Int := ⟨aN, fun _ => True, jI, fun _ a => 0 ≤ a, fun _ => 1⟩
abbrev c_law_take (ad : Ads) : CtrS (Int × Unit) Int := ⟨aC jI aN, fun t => 0 < t.1 ∧ t.1 < 1073741824, jI, fun t a => 0 ≤ a ∧ a < t.1, fun _ => 1⟩
theorem primes_ok {i : Nat} {x : V} (h : [V.int 2147483629, V.int 2147483587, V.int 2147483579, V.int 2147483563, V.int 2147483549, V.int 2147483543][i]? = some x) :
    ∃ z, x = V.int z ∧ 0 < z ∧ z < 2147483648 := by
  have m := List.mem_of_getElem? h
  simp only [List.mem_cons, List.not_mem_nil, or_false] at m
  rcases m with rfl | rfl | rfl | rfl | rfl | rfl <;> exact ⟨_, rfl, by decide, by decide⟩
theorem ok_law_mixed (T : Txt K mg ad) {f : Addr} {fd : FuncData} (F : Fun K "_law_mixed" "_law_mixed" s_law_mixed f fd) : FnOk P w K mg base CX0 1 f fd ["state"] (spS (c_law_mixed ad)) := by
  refine F.ok sc_law_mixed (fun vs H Q E h => ?_) (fun cdv A outer s H vs Q E hr h => ?_)
  · obtain ⟨p, L, Cc, n, S, t, rest, rfl, _, hra, _⟩ := h
    rw [show rest = [] from hra]; rfl
  · obtain ⟨p, L, Cc, n, S, t, rest, rfl, g, hra, _, hl, k⟩ := h
    have hrest : rest = [] := hra
    subst hrest
    have hu := hu_of hr
    have nd := sc_law_mixed.nd
    obtain ⟨ls, cs, r, tt, a1, a2, a3, a4, a5, a6, a7⟩ := g.amb.ex
    have hlim : n + 1 ≤ 2 ^ 40 := hl
    refine ⟨_, pss_cons (ps_dput hu (pv 0) pe_str (pe_op op_add (pe_dget hu (pv 0) pe_str (fun _ _ => rfl)) pe_int) rfl)
      (pss_cons (ps_set (i := 1) nd rfl (Or.inl rfl) pe_int)
      (pss_cons (ps_for PassesOwn.never rfl (pi_list (pe_lst (pa_cons pe_int (pa_cons pe_int (pa_cons pe_int (pa_cons pe_int (pa_cons pe_int (pa_cons pe_int pa_nil)))))))) (pg_name (i := 2) nd rfl (Or.inl rfl))
        (pss_cons (ps_set (i := 3) nd rfl (Or.inl rfl) (pe_op op_add (pe_op op_mul pe_int (pe_dget hu (pv 0) pe_str (fun _ _ => rfl))) (pe_op op_fdiv (pv 2) pe_int)))
        (pss_cons (ps_for PassesOwn.never rfl (pi_list (pe_dget hu (pv 0) pe_str (fun _ _ => rfl))) (pg_name (i := 4) nd rfl (Or.inl rfl))
          (pss_one (ps_set (i := 3) nd rfl (Or.inl rfl) (pe_op op_mod (pe_callTy call_int1 (by rfl) T.n_int (by decide +kernel) (pa_cons (pe_op op_add (pe_op op_mul (pv 3) pe_int) (pv 4)) pa_nil)) (pv 2)))))
        (pss_one (ps_set (i := 1) nd rfl (Or.inl rfl) (pe_op op_add (pe_op op_mul (pv 1) pe_int) (pe_op op_mod (pe_callTy call_int1 (by rfl) T.n_int (by decide +kernel) (pa_cons (pe_op op_pow (pv 3) pe_int) pa_nil)) (pv 2))))))))
      (pss_one (ps_ret (pv 1))))), ?_⟩
    have pL : p ≠ L := ne_of a1 a2 (by intro z; cases z)
    have pC : p ≠ Cc := ne_of a1 a4 (by intro z; cases z)
    refine ⟨_, rfl, p, _, rfl, dget_turn a1, _, _, rfl, rfl, _, rfl, p, _, rfl, dput_turn a1, by show 6 ≤ sizeLine; decide, fun q nq => ⟨q, rfl, ⟨_, SqL.of upd_same⟩, ?_⟩⟩
    have nq' : H q = none := by
      by_cases z : q = p
      · subst z; rw [upd_same] at nq; cases nq
      · rw [upd_ne z] at nq; exact nq
    have b1 : upd (upd H p (.dK (stD L Cc r (tt + 1)))) q (.lst [V.int 2147483629, V.int 2147483587, V.int 2147483579, V.int 2147483563, V.int 2147483549, V.int 2147483543]) p = some (.dK (stD L Cc r (tt + 1))) := by
      rw [upd_ne (ne_of_none a1 nq'), upd_same]
    have b4 : upd (upd H p (.dK (stD L Cc r (tt + 1)))) q (.lst [V.int 2147483629, V.int 2147483587, V.int 2147483579, V.int 2147483563, V.int 2147483549, V.int 2147483543]) Cc = some (.lst (cs.map V.int)) := by
      rw [upd_ne (ne_of_none a4 nq'), upd_ne pC.symm]; exact a4
    have b2 : upd (upd H p (.dK (stD L Cc r (tt + 1)))) q (.lst [V.int 2147483629, V.int 2147483587, V.int 2147483579, V.int 2147483563, V.int 2147483549, V.int 2147483543]) L = some (.lst (ls.map V.int)) := by
      rw [upd_ne (ne_of_none a2 nq'), upd_ne pL.symm]; exact a2
    have bq : upd (upd H p (.dK (stD L Cc r (tt + 1)))) q (.lst [V.int 2147483629, V.int 2147483587, V.int 2147483579, V.int 2147483563, V.int 2147483549, V.int 2147483543]) q = some (.lst [V.int 2147483629, V.int 2147483587, V.int 2147483579, V.int 2147483563, V.int 2147483549, V.int 2147483543]) := upd_same
    have keep : ∀ a o, a ≠ p → H a = some o → upd (upd H p (.dK (stD L Cc r (tt + 1)))) q (.lst [V.int 2147483629, V.int 2147483587, V.int 2147483579, V.int 2147483563, V.int 2147483549, V.int 2147483543]) a = some o := fun a o ne e => by
      rw [upd_ne (ne_of_none e nq'), upd_ne ne]; exact e
    have nqS : S q = none := g.fresh nq'
    revert b1 b2 b4 bq keep
    generalize upd (upd H p (.dK (stD L Cc r (tt + 1)))) q (.lst [V.int 2147483629, V.int 2147483587, V.int 2147483579, V.int 2147483563, V.int 2147483549, V.int 2147483543]) = H1
    intro b1 b4 b2 bq keep
    refine for_list (K := K) (a := q) (xs := [V.int 2147483629, V.int 2147483587, V.int 2147483579, V.int 2147483563, V.int 2147483549, V.int 2147483543]) (fun i σ H2 => ∃ (fo : Int) (v2 v3 v4 : Option V), σ = [some (.ref p), some (.int fo), v2, v3, v4] ∧ 0 ≤ fo ∧ H2 = H1)
      ⟨0, none, none, none, rfl, by decide, rfl⟩ (fun i σ H2 _ ⟨_, _, _, _, _, _, e⟩ => by rw [e]; exact SqL.of bq) ?_ ?_
    · rintro i y σ H2 hi ⟨fo, v2, v3, v4, rfl, hfo, rfl⟩
      obtain ⟨pr, rfl, hp0, hp1⟩ := primes_ok hi
      refine ⟨_, rfl, p, _, rfl, dget_turn b1, _, _, rfl, rfl, .inl (by constructor <;> decide), _, rfl, _, _, rfl, rfl, (by constructor <;> decide), _, _, rfl, rfl, ?_⟩
      refine ⟨_, rfl, p, _, rfl, dget_cells b1, Cc, rfl, ⟨_, SqL.of b4⟩, for_list (K := K) (a := Cc) (xs := cs.map V.int) (fun j σ H3 => ∃ (bl : Int) (v4 : Option V), σ = [some (.ref p), some (.int fo), some (.int pr), some (.int bl), v4] ∧ 0 ≤ bl ∧ bl < 2 ^ 63 ∧ H3 = H2)
        ⟨_, v4, rfl, by omega, by omega, rfl⟩ (fun j σ H3 _ ⟨_, _, _, _, _, e⟩ => by rw [e]; exact SqL.of b4) ?_ ?_⟩
      · rintro j y σ H3 hj ⟨bl, v4', rfl, h0, h1, rfl⟩
        obtain ⟨z, rfl, _⟩ := ints_get hj
        refine ⟨_, rfl, _, _, rfl, rfl, .inr (by constructor <;> decide), _, rfl, _, _, rfl, rfl, .inl ⟨_, rfl, ?_⟩⟩
        refine ⟨_, rfl, _, _, rfl, rfl, hp0, _, some (.int z), rfl, ?_, ?_, rfl⟩
        · exact Int.emod_nonneg _ (by omega)
        · have := Int.emod_lt_of_pos (bl * 48271 + z) hp0
          omega
      · rintro σ H3 ⟨bl, v4', rfl, h0, h1, rfl⟩
        refine ⟨_, rfl, _, _, rfl, rfl, .inr (by constructor <;> decide), _, rfl, _, _, rfl, rfl, (by refine ⟨by decide, by decide, ?_⟩; omega), .inl ⟨_, rfl, _, rfl, _, _, rfl, rfl, hp0, _, _, rfl, rfl, ?_⟩⟩
        refine ⟨_, some (.int pr), some (.int bl), v4', rfl, ?_, rfl⟩
        have := Int.emod_nonneg (bl ^ (5 : Int).toNat) (show pr ≠ 0 by omega)
        omega
    · rintro σ H2 ⟨fo, v2, v3, v4, rfl, hfo, rfl⟩
      refine ⟨_, rfl, k _ fo S H2 hfo ⟨fun a o nf e => keep a o (fun z => nf (.inl z)) e, fun _ _ h => h, fun _ _ _ h => h, ⟨fun a o e => keep a o (fun z => ?_) (g.sub a o e), ⟨ls, cs, r, tt + 1, b1, b2, a3, b4, a5, by omega, ?_⟩, g.out⟩⟩ rfl⟩
      · have e' : S a = some o := e
        have := g.out a (.inl z)
        rw [show (⟨S, H⟩ : Wd).S a = S a from rfl, e'] at this; cases this
      · show tt + 1 ≤ ((n + 1 : Nat) : Int)
        omega
theorem ok_law_take (T : Txt K mg ad) (G_mixed : FnAt P w K mg base CX0 1 "_law_mixed" ["state"] (spS (c_law_mixed ad))) {f : Addr} {fd : FuncData} (F : Fun K "_law_take" "_law_take" s_law_take f fd) :
    FnOk P w K mg base CX0 2 f fd ["state", "size"] (spS (c_law_take ad)) := by
  obtain ⟨fm, fdm, hmm, hkm, hbm, FM⟩ := G_mixed.ex
  refine F.ok sc_law_take (fun vs H Q E h => ?_) (fun cdv A outer s H vs Q E hr h => ?_)
  · obtain ⟨p, L, Cc, n, S, t, rest, rfl, _, ⟨v, r, e, _, e2⟩, _⟩ := h
    rw [e, show r = [] from e2]; rfl
  · obtain ⟨p, L, Cc, n, S, ⟨sz, ⟨⟩⟩, rest, rfl, g, ⟨v, r0, rfl, e1, e2⟩, ⟨hs0, hs1⟩, hl, k⟩ := h
    have e1' : v = .int sz := e1
    have e2' : r0 = [] := e2
    subst e1' e2'
    dsimp only at hs0 hs1
    have hu := hu_of hr
    have nd := sc_law_take.nd
    have hl' : n + 1 ≤ lim := hl
    refine ⟨_, pss_cons (ps_if (pt_cmpR op_eq (pe_dget hu (pv 0) pe_str (fun _ _ => rfl)) pe_int (nomark _))
        (pss_one (ps_dput hu (pv 0) pe_str (pe_ifExp (pt_cmpR (op_neD hr.units) (pe_dget hu (pv 0) pe_str (fun _ _ => rfl)) (pe_lst pa_nil) (nomark _))
          (pe_bm PySem.F.plainAttrs_list PySem.F.slot_list_pop PySem.F.type_list_pop mt_popAt (pe_dget hu (pv 0) pe_str (fun _ _ => rfl)) (pa_cons pe_int pa_nil))
          (pe_call FM hr rfl hmm hkm hbm .nil pass0 (pa_cons (pv 0) pa_nil))) rfl)) pss_nil)
      (pss_cons (ps_set (i := 2) nd rfl (Or.inl rfl) (pe_op op_mod (pe_callTy call_int1 (by rfl) T.n_int (by decide +kernel) (pa_cons (pe_dget hu (pv 0) pe_str (fun _ _ => rfl)) pa_nil)) (pv 1)))
      (pss_cons (ps_dput hu (pv 0) pe_str (pe_op op_fdiv (pe_dget hu (pv 0) pe_str (fun _ _ => rfl)) (pv 1)) rfl)
      (pss_one (ps_ret (pv 2))))), ?_⟩
    have fin : ∀ (W' : Wd), Le (dm p L Cc) (n + 1) ⟨S, H⟩ W' → (tSeq (tAsg (tOp (L2.rI (fun _ j => 0 < j) fun i j => .int (i % j)) (tCB (fun (xs : List V) (H : Hp) (Q : VK) => (∃ i, xs = [.int i] ∧ Q (.int i) H) ∨ ∃ k : Bool, xs = [.bl k] ∧ Q (.int (if k then 1 else 0)) H) (tCons (tDGet (tVar 0) (tC (.str "rest"))) tNil)) (tVar 1)) (gName 2))
        (tSeq (sDPut (tVar 0) (tC (.str "rest")) (tOp (L2.rI CDiv fun i j => .int (i / j)) (tDGet (tVar 0) (tC (.str "rest"))) (tVar 1))) (tRet (tVar 2)))) { nx := fun _ H' => Q .non H', rt := Q } [some (.ref p), some (.int sz), none] W'.H := by
      intro W' l
      obtain ⟨ls, cs, r, tt, a1, a2, a3, a4, a5, a6, a7⟩ := l.good.amb.ex
      have pL : p ≠ L := ne_of a1 a2 (by intro z; cases z)
      have pC : p ≠ Cc := ne_of a1 a4 (by intro z; cases z)
      refine ⟨_, rfl, p, _, rfl, dget_rest a1, .inl ⟨_, rfl, _, rfl, _, _, rfl, rfl, hs0, ?_⟩⟩
      refine ⟨_, rfl, p, _, rfl, dget_rest a1, _, rfl, _, _, rfl, rfl, ⟨hs0, hs1⟩, _, rfl, p, _, rfl, dput_rest a1, _, rfl, ?_⟩
      refine k _ (r % sz) W'.S _ ⟨Int.emod_nonneg _ (by omega), Int.emod_lt_of_pos _ hs0⟩ ⟨fun a o nf e => ?_, l.ext, l.new, ⟨fun a o e => ?_, ⟨ls, cs, r / sz, tt, upd_same, (upd_ne pL.symm).trans a2, a3, (upd_ne pC.symm).trans a4, a5, a6, a7⟩, l.good.out⟩⟩ rfl
      · show upd W'.H p _ a = some o
        rw [upd_ne (fun z => nf (.inl z))]; exact l.keep a o nf e
      · show upd W'.H p _ a = some o
        have ne : a ≠ p := fun z => by
          have := l.good.out a (.inl z)
          rw [e] at this; cases this
        rw [upd_ne ne]; exact l.good.sub a o e
    obtain ⟨ls, cs, r, tt, a1, a2, a3, a4, a5, a6, a7⟩ := g.amb.ex
    have pL : p ≠ L := ne_of a1 a2 (by intro z; cases z)
    have pC : p ≠ Cc := ne_of a1 a4 (by intro z; cases z)
    have LC : L ≠ Cc ∨ ls = cs := by
      by_cases z : L = Cc
      · subst z
        right
        have a2' : H L = _ := a2
        have a4' : H L = _ := a4
        rw [a2'] at a4'
        have := HO.lst.inj (Option.some.inj a4')
        exact (List.map_inj_right (fun x y e => V.int.inj e)).mp this
      · exact .inl z
    refine ⟨_, rfl, p, _, rfl, dget_rest a1, rfl, _, rfl, ?_⟩
    refine ite2 (fun _ => ?_) (fun _ => ?_)
    · refine ⟨_, rfl, p, _, rfl, dget_large a1, by show 0 ≤ sizeLine; decide, fun q nq => ?_⟩
      have s1 : Same H (upd H q (.lst [])) := fun a o e => by rw [upd_ne (ne_of_none e nq)]; exact e
      have l1 : Le (dm p L Cc) n ⟨S, H⟩ ⟨S, upd H q (.lst [])⟩ := g.put nq
      refine ⟨.list (ls.map PyData.int), .list [], .lst (SqL.of (s1 _ _ a2)) (dpAll_ints ls), .lst (SqL.of upd_same) .nil, shaped_ints ls, shaped_ints [], _, rfl, ?_⟩
      rw [eqv_ints_nil]
      cases hls : ls with
      | nil =>
        refine iteF ⟨_, rfl, p, L, Cc, n, S, (), [], rfl, l1.good, rfl, trivial, hl', fun v a S' H' ha l2 ra => ?_⟩
        have l12 := l1.trans l2
        have ra' : v = .int a := ra
        subst ra'
        obtain ⟨ls', cs', r', tt', c1, c2, c3, c4, c5, c6, c7⟩ := l2.good.amb.ex
        have pL' : p ≠ L := pL
        refine ⟨_, rfl, p, _, rfl, dput_rest c1, fin ⟨S', upd H' p (.dK (stD L Cc a tt'))⟩ ⟨fun a' o nf e => ?_, l12.ext, l12.new, ⟨fun a' o e => ?_, ⟨ls', cs', a, tt', upd_same, (upd_ne pL.symm).trans c2, c3, (upd_ne pC.symm).trans c4, c5, c6, c7⟩, l2.good.out⟩⟩⟩
        · show upd H' p _ a' = some o
          rw [upd_ne (fun z => nf (.inl z))]; exact l12.keep a' o nf e
        · show upd H' p _ a' = some o
          have ne : a' ≠ p := fun z => by
            have := l2.good.out a' (.inl z)
            rw [e] at this; cases this
          rw [upd_ne ne]; exact l2.good.sub a' o e
      | cons x xs =>
        subst hls
        have a2' := s1 _ _ a2
        have a1' := s1 _ _ a1
        have a4' := s1 _ _ a4
        refine iteT ⟨_, rfl, p, _, rfl, dget_large a1', .inl ⟨rfl, _, SqL.of a2'⟩, L, _, 0, 0, V.int x, rfl, rfl, a2', by decide, by decide, by simp [seqIndex?], rfl, ?_⟩
        have l2 : Le (dm p L Cc) (n + 1) ⟨S, H⟩ ⟨S, upd (upd (upd H q (.lst [])) L (.lst (((x :: xs).map V.int).eraseIdx 0))) p (.dK (stD L Cc x tt))⟩ := by
          refine ⟨fun a o nf e => ?_, fun _ _ h => h, fun _ _ _ h => h, ⟨fun a o e => ?_, ⟨xs, ?_⟩, g.out⟩⟩
          · show upd _ p _ a = some o
            rw [upd_ne (fun z => nf (.inl z)), upd_ne (fun z => nf (.inr (.inl z)))]; exact s1 a o e
          · have e' : S a = some o := e
            show upd _ p _ a = some o
            have n1 : a ≠ p := fun z => by
              have := g.out a (.inl z)
              rw [show (⟨S, H⟩ : Wd).S a = S a from rfl, e'] at this; cases this
            have n2 : a ≠ L := fun z => by
              have := g.out a (.inr (.inl z))
              rw [show (⟨S, H⟩ : Wd).S a = S a from rfl, e'] at this; cases this
            rw [upd_ne n1, upd_ne n2]; exact s1 a o (g.sub a o e')
          · have eL : upd (upd (upd H q (.lst [])) L (.lst (((x :: xs).map V.int).eraseIdx 0))) p (.dK (stD L Cc x tt)) L = some (.lst (xs.map V.int)) := by
              rw [upd_ne pL.symm, upd_same]; rfl
            rcases LC with ne | ec
            · refine ⟨cs, x, tt, upd_same, eL, by simp at a3; omega, ?_, a5, a6, by have h7 : tt ≤ (n : Int) := a7; show tt ≤ ((n + 1 : Nat) : Int); omega⟩
              exact (upd_ne pC.symm).trans ((upd_ne ne.symm).trans a4')
            · by_cases z : L = Cc
              · refine ⟨xs, x, tt, upd_same, eL, by simp at a3; omega, z ▸ eL, by simp at a3; omega, a6, by have h7 : tt ≤ (n : Int) := a7; show tt ≤ ((n + 1 : Nat) : Int); omega⟩
              · refine ⟨cs, x, tt, upd_same, eL, by simp at a3; omega, ?_, a5, a6, by have h7 : tt ≤ (n : Int) := a7; show tt ≤ ((n + 1 : Nat) : Int); omega⟩
                exact (upd_ne pC.symm).trans ((upd_ne (fun w => z w.symm)).trans a4')
        have b1 : upd (upd H q (.lst [])) L (.lst (((x :: xs).map V.int).eraseIdx 0)) p = some (.dK (stD L Cc r tt)) := by rw [upd_ne pL]; exact a1'
        exact ⟨_, rfl, p, _, rfl, dput_rest b1, fin _ l2⟩
    · exact fin ⟨S, H⟩ ((Le.refl g).up (Nat.le_succ n))
abbrev s_law_begun : Stmt := topS 26
theorem sc_law_begun : FnScope ["script", "large", "cell"] ["script"] (defScope s_law_begun) := ⟨rfl, rfl, rfl, by decide +kernel, rfl, by decide +kernel, by decide +kernel⟩
theorem ok_law_begun (T : Txt K mg ad) {f : Addr} {fd : FuncData} (F : Fun K "_law_begun" "_law_begun" s_law_begun f fd) : FnOk P w K mg base CX0 1 f fd ["script"] (spBegun K) := by
  refine F.ok sc_law_begun (fun vs H Q E h => ?_) (fun cdv A outer s H vs Q E hr h => ?_)
  · obtain ⟨a, ns, rfl, _⟩ := h; rfl
  · obtain ⟨a, ns, rfl, hS, hlen, k⟩ := h
    have nd := sc_law_begun.nd
    refine ⟨_, pss_cons (ps_setLc (i := 1) (own := [("cell", 2)]) (g := gName 2) (tt := _) rfl nd rfl rfl (sw_true rfl rfl rfl (by decide +kernel)) (pi_list (pv 0))
        (blkOk_by (own := [("cell", 2)]) (N := ["script", "large", "cell"]) (sc := defScope s_law_begun) (by decide +kernel)) (fun _ _ _ _ _ => pg_name (i := 2) nd rfl (Or.inl rfl))
        (fun _ _ _ _ _ => pts_one (pt_cmpR op_ge (pv 2) (pe_op op_pow pe_int pe_int) (nomark _))) (fun _ _ _ _ _ => pe_op op_sub (pv 2) (pe_op op_pow pe_int pe_int)))
      (pss_one (ps_ret (pe_disp (pps_cons pe_str (pv 1) (pps_cons pe_str (pe_callTy call_list_of (by rfl) T.n_list (by decide +kernel) (pa_cons (pv 0) pa_nil)) (pps_cons pe_str pe_int (pps_cons pe_str pe_int pps_nil))))
        (by rfl) (by rfl) (fun z => by cases z) (by decide)))), ?_⟩
    refine ⟨_, rfl, a, rfl, ⟨_, hS⟩, fun D hD => ?_⟩
    have sm : ∀ o, Same H (upd H D o) := fun o b u e => by rw [upd_ne (ne_of_none e hD)]; exact e
    refine lc_list (K := K) (a := a) (xs := ns.map V.int) (fun i H' => ∃ acc : List Int, H' = upd H D (.lst (acc.map V.int)) ∧ acc.length ≤ i) ⟨[], rfl, Nat.le_refl _⟩ (fun i H' _ ⟨acc, e, _⟩ => by rw [e]; exact (sm _).seq hS) ?_ ?_
    · rintro i y H' hi ⟨acc, rfl, hacc⟩
      have hil : i < ns.length := by
        have := (List.getElem?_eq_some_iff.mp hi).1
        simpa using this
      obtain ⟨z, rfl, _⟩ := ints_get hi
      refine ⟨rfl, _, rfl, _, _, rfl, rfl, ⟨by decide, by decide, by decide⟩, _, _, rfl, rfl, _, rfl, ite2 (fun _ => ?_) (fun _ => ?_)⟩
      · refine ⟨_, rfl, _, _, rfl, rfl, ⟨by decide, by decide, by decide⟩, _, _, rfl, rfl, _, upd_same, ?_, acc ++ [z - 10 ^ Int.toNat 18], ?_, ?_⟩
        · rw [List.length_map]; exact small1000 (by omega)
        · rw [upd_upd, List.map_append]; rfl
        · rw [List.length_append]; simp; omega
      · exact ⟨acc, rfl, by omega⟩
    · rintro H' ⟨acc, rfl, hacc⟩
      rw [List.length_map] at hacc
      intro p np
      have hpD : p ≠ D := fun z => by rw [z, upd_same] at np; cases np
      have np0 : H p = none := by rw [upd_ne hpD] at np; exact np
      refine ⟨_, rfl, _, rfl, a, ns.map V.int, rfl, .inl ?_, fun l nl => ⟨?_, ?_⟩⟩
      · exact Same.seq (fun b u e => by rw [upd_ne (ne_of_none e np0)]; exact sm _ b u e) hS
      · have hlp : l ≠ p := fun z => by rw [z, upd_same] at nl; cases nl
        exact (upd_ne hlp.symm).trans upd_same
      · have hlp : l ≠ p := fun z => by rw [z, upd_same] at nl; cases nl
        have hlD : l ≠ D := fun z => by rw [z, upd_ne hpD.symm, upd_same] at nl; cases nl
        have nl0 : H l = none := by rw [upd_ne hlp, upd_ne hlD] at nl; exact nl
        refine ⟨[(kLarge, .ref D), (kCells, .ref l), (kRest, .int 0), (kTurn, .int 0)], rfl, by show 4 ≤ 15; decide, ?_⟩
        have em : mergeK [] [(kLarge, V.ref D), (kCells, .ref l), (kRest, .int 0), (kTurn, .int 0)] = stD D l 0 0 := by
          simp [mergeK, putK, stD, k_lc, k_lr, k_lt, k_cr, k_ct, k_rt]
        rw [em]
        refine k p D l _ np0 hD nl0 (fun b u e => ?_) ⟨acc, ns, 0, 0, upd_same, ?_, by omega, ?_, by omega, by decide, by decide⟩
        · rw [upd_ne (ne_of_none e np0), upd_ne (ne_of_none e nl0), upd_ne (ne_of_none e np0)]; exact sm _ b u e
        · exact (upd_ne hpD.symm).trans ((upd_ne hlD.symm).trans ((upd_ne hpD.symm).trans upd_same))
        · exact (upd_ne hlp).trans upd_same
end
end K29

set_option Elab.async false
set_option linter.all false
set_option maxRecDepth 100000
set_option maxHeartbeats 4000000
namespace K29
open PySem L2 Gm LeastM
section
variable {P : Program} {w : World} {K : PySem.W.Frag} {mg : Str → Option Value} {base : Heap} {ad : Ads}
/-! numbers -/
abbrev s_is_number : Stmt := topS 5
theorem sc_is_number : FnScope ["value"] ["value"] (defScope s_is_number) := ⟨rfl, rfl, rfl, by decide +kernel, rfl, by decide +kernel, by decide +kernel⟩
abbrev c_is_number (ad : Ads) : Ctr (Int × Unit) Bool := ctrF (aC jI aN) (fun _ => True) jB (fun _ => true)
theorem ok_is_number (T : Txt K mg ad)   {f : Addr} {fd : FuncData} (F : Fun K "is_number" "is_number" s_is_number f fd) : FnOk P w K mg base CX0 1 f fd ["value"] (spP (c_is_number ad)) := by
  refine fn_okP F sc_is_number (ae_cons ae_nil) rfl ?_
  rintro cdv A outer s H E B ⟨value, ⟨⟩⟩ hr hpre
  have nd := sc_is_number.nd
  try dsimp only at hpre
  show GS _ Am.no 0 _ _ [some (.pv jI value)] _
  refine gs_retF (ge_and (ge_isi isi_I_int T.n_isinstance (ge_var 0) (pe_cls T.n_int (by decide +kernel))) (fun hk => (ge_one (ge_not (ge_isi isi_I_bool T.n_isinstance (ge_var 0) (pe_cls T.n_bool (by decide +kernel))))))) ?_
  rfl
abbrev s_is_number_in : Stmt := topS 6
theorem sc_is_number_in : FnScope ["value", "least", "most"] ["value", "least", "most"] (defScope s_is_number_in) := ⟨rfl, rfl, rfl, by decide +kernel, rfl, by decide +kernel, by decide +kernel⟩
abbrev c_is_number_in (ad : Ads) : Ctr (Int × Int × Int × Unit) Bool := ctrF (aC jI (aC jI (aC jI aN))) (fun _ => True) jB (fun t => decide (t.2.1 ≤ t.1) && decide (t.1 ≤ t.2.2.1))
theorem ok_is_number_in (T : Txt K mg ad) (G_is_number : FnAt P w K mg base CX0 1 "is_number" ["value"] (spP (c_is_number ad)))  {f : Addr} {fd : FuncData} (F : Fun K "is_number_in" "is_number_in" s_is_number_in f fd) : FnOk P w K mg base CX0 2 f fd ["value", "least", "most"] (spP (c_is_number_in ad)) := by
  refine fn_okP F sc_is_number_in (ae_cons (ae_cons (ae_cons ae_nil))) rfl ?_
  rintro cdv A outer s H E B ⟨value, least, most, ⟨⟩⟩ hr hpre
  have nd := sc_is_number_in.nd
  try dsimp only at hpre
  show GS _ Am.no 0 _ _ [some (.pv jI value), some (.pv jI least), some (.pv jI most)] _
  refine gs_retF (ge_and (ge_fnF G_is_number hr (by decide) pass0 (ga_consF (ge_var 0) ga_nilF) (by first | exact (by first | trivial | (first | omega | (refine ⟨?_, ?_⟩ <;> omega) | (left; refine ⟨?_, ?_⟩ <;> omega) | (right; refine ⟨?_, ?_⟩ <;> omega)) | (dsimp only; first | trivial | (first | omega | (refine ⟨?_, ?_⟩ <;> omega) | (left; refine ⟨?_, ?_⟩ <;> omega) | (right; refine ⟨?_, ?_⟩ <;> omega)))) | (dsimp only [ctrF, c_is_number]; exact (by first | trivial | (first | omega | (refine ⟨?_, ?_⟩ <;> omega) | (left; refine ⟨?_, ?_⟩ <;> omega) | (right; refine ⟨?_, ?_⟩ <;> omega)) | (dsimp only; first | trivial | (first | omega | (refine ⟨?_, ?_⟩ <;> omega) | (left; refine ⟨?_, ?_⟩ <;> omega) | (right; refine ⟨?_, ?_⟩ <;> omega))))))) (fun hk => (ge_one (ge_chain op_le op_le (ge_var 1) (ge_var 0) (ge_var 2))))) ?_
  simp
/-! plans -/
abbrev s_need_plan : Stmt := topS 15
theorem sc_need_plan : FnScope ["value"] ["value"] (defScope s_need_plan) := ⟨rfl, rfl, rfl, by decide +kernel, rfl, by decide +kernel, by decide +kernel⟩
abbrev c_need_plan (ad : Ads) : Ctr (PlanD × Unit) Unit := ctrF (aC (jPlan ad) aN) (fun _ => True) jN (fun _ => ())
theorem ok_need_plan (T : Txt K mg ad)   {f : Addr} {fd : FuncData} (F : Fun K "need_plan" "need_plan" s_need_plan f fd) : FnOk P w K mg base CX0 1 f fd ["value"] (spP (c_need_plan ad)) := by
  refine fn_okP F sc_need_plan (ae_cons ae_nil) rfl ?_
  rintro cdv A outer s H E B ⟨value, ⟨⟩⟩ hr hpre
  have nd := sc_need_plan.nd
  try dsimp only at hpre
  show GS _ Am.no 0 _ _ [some (.pv (jPlan ad) value)] _
  refine gs_skip (gt_notF (gt_val (ge_isi (isi_Plan T) T.n_isinstance (ge_var 0) (pe_glob rfl T.g_Plan rfl)))) rfl ?_
  exact gs_nil ⟨Nat.le_refl _, (), rfl, fun _ => rfl⟩
abbrev s_need_balance : Stmt := topS 16
theorem sc_need_balance : FnScope ["plan", "balance"] ["plan", "balance"] (defScope s_need_balance) := ⟨rfl, rfl, rfl, by decide +kernel, rfl, by decide +kernel, by decide +kernel⟩
abbrev c_need_balance (ad : Ads) : Ctr (PlanD × Int × Unit) Unit := ctrF (aC (jPlan ad) (aC jI aN)) (fun t => 0 ≤ t.2.1 ∧ t.2.1 ≤ 100000) jN (fun _ => ())
theorem ok_need_balance (T : Txt K mg ad) (G_need_plan : FnAt P w K mg base CX0 1 "need_plan" ["value"] (spP (c_need_plan ad))) (G_is_number_in : FnAt P w K mg base CX0 2 "is_number_in" ["value", "least", "most"] (spP (c_is_number_in ad)))  {f : Addr} {fd : FuncData} (F : Fun K "need_balance" "need_balance" s_need_balance f fd) : FnOk P w K mg base CX0 3 f fd ["plan", "balance"] (spP (c_need_balance ad)) := by
  refine fn_okP F sc_need_balance (ae_cons (ae_cons ae_nil)) rfl ?_
  rintro cdv A outer s H E B ⟨plan, balance, ⟨⟩⟩ hr hpre
  have nd := sc_need_balance.nd
  try dsimp only at hpre
  show GS _ Am.no 0 _ _ [some (.pv (jPlan ad) plan), some (.pv jI balance)] _
  obtain ⟨hb0, hb1⟩ := hpre
  refine gs_expr (ge_fnF G_need_plan hr (by decide) pass0 (ga_consF (ge_var 0) ga_nilF) (by first | exact (by first | trivial | (first | omega | (refine ⟨?_, ?_⟩ <;> omega) | (left; refine ⟨?_, ?_⟩ <;> omega) | (right; refine ⟨?_, ?_⟩ <;> omega)) | (dsimp only; first | trivial | (first | omega | (refine ⟨?_, ?_⟩ <;> omega) | (left; refine ⟨?_, ?_⟩ <;> omega) | (right; refine ⟨?_, ?_⟩ <;> omega)))) | (dsimp only [ctrF, c_need_plan]; exact (by first | trivial | (first | omega | (refine ⟨?_, ?_⟩ <;> omega) | (left; refine ⟨?_, ?_⟩ <;> omega) | (right; refine ⟨?_, ?_⟩ <;> omega)) | (dsimp only; first | trivial | (first | omega | (refine ⟨?_, ?_⟩ <;> omega) | (left; refine ⟨?_, ?_⟩ <;> omega) | (right; refine ⟨?_, ?_⟩ <;> omega))))))) (fun _ _ => ?_)
  refine gs_skip (gt_notF (gt_val (ge_fnF G_is_number_in hr (by decide) pass0 (ga_consF (ge_var 1) (ga_consF (ge_int) (ga_consF (ge_gintX rfl T.x_MOST_BALANCE) ga_nilF))) (by first | exact (by first | trivial | (first | omega | (refine ⟨?_, ?_⟩ <;> omega) | (left; refine ⟨?_, ?_⟩ <;> omega) | (right; refine ⟨?_, ?_⟩ <;> omega)) | (dsimp only; first | trivial | (first | omega | (refine ⟨?_, ?_⟩ <;> omega) | (left; refine ⟨?_, ?_⟩ <;> omega) | (right; refine ⟨?_, ?_⟩ <;> omega)))) | (dsimp only [ctrF, c_is_number_in]; exact (by first | trivial | (first | omega | (refine ⟨?_, ?_⟩ <;> omega) | (left; refine ⟨?_, ?_⟩ <;> omega) | (right; refine ⟨?_, ?_⟩ <;> omega)) | (dsimp only; first | trivial | (first | omega | (refine ⟨?_, ?_⟩ <;> omega) | (left; refine ⟨?_, ?_⟩ <;> omega) | (right; refine ⟨?_, ?_⟩ <;> omega))))))))) (by simp [hb0, hb1]) ?_
  exact gs_nil ⟨Nat.le_refl _, (), rfl, fun _ => rfl⟩
abbrev s_month_with : Stmt := topS 17
theorem sc_month_with : FnScope ["plan", "balance", "extra", "rate", "share", "least", "plus", "interest", "owed", "wanted", "payment"] ["plan", "balance", "extra"] (defScope s_month_with) := ⟨rfl, rfl, rfl, by decide +kernel, rfl, by decide +kernel, by decide +kernel⟩
abbrev c_month_with (ad : Ads) : Ctr (PlanD × Int × Int × Unit) (Int × Int × Int) := ctrF (aC (jPlan ad) (aC jI (aC jI aN))) (fun t => PlanOk t.1 ∧ 0 ≤ t.2.1 ∧ t.2.1 ≤ 1000000000000) (jT3 jI jI jI) (fun t => monthW t.1 t.2.1 t.2.2.1)
theorem ok_month_with (T : Txt K mg ad)   {f : Addr} {fd : FuncData} (F : Fun K "month_with" "month_with" s_month_with f fd) : FnOk P w K mg base CX0 1 f fd ["plan", "balance", "extra"] (spP (c_month_with ad)) := by
  refine fn_okP F sc_month_with (ae_cons (ae_cons (ae_cons ae_nil))) rfl ?_
  rintro cdv A outer s H E B ⟨plan, balance, extra, ⟨⟩⟩ hr hpre
  have nd := sc_month_with.nd
  try dsimp only at hpre
  show GS _ Am.no 0 _ _ [some (.pv (jPlan ad) plan), some (.pv jI balance), some (.pv jI extra), none, none, none, none, none, none, none, none] _
  obtain ⟨hP, hb0, hb1⟩ := hpre
  refine gs_asg (js := [3, 4, 5, 6]) (fun z => (gb_tup rfl to4 (gbs_cons (gb_name 3 nd) (gbs_cons (gb_name 4 nd) (gbs_cons (gb_name 5 nd) (gbs_cons (gb_name 6 nd) gbs_nil)))))) (ge_fld (fv_parts T) (ge_var 0)) ?_ (fun z on => (OwnNew.setPv 6 (OwnNew.setPv 5 (OwnNew.setPv 4 (OwnNew.setPv 3 on)))))
  rintro ⟨rate, share, least, plus⟩ h_t
  try dsimp only at h_t
  cases h_t
  obtain ⟨p1, p2, p3, p4, p5, p6⟩ := hP
  try dsimp only at p1 p2 p3 p4 p5 p6
  refine gs_set 7 nd (ge_bdiv (ge_bmul (ge_var 1) (ge_var 3) (by first | trivial | (first | omega | (refine ⟨?_, ?_⟩ <;> omega) | (left; refine ⟨?_, ?_⟩ <;> omega) | (right; refine ⟨?_, ?_⟩ <;> omega)) | (dsimp only; first | trivial | (first | omega | (refine ⟨?_, ?_⟩ <;> omega) | (left; refine ⟨?_, ?_⟩ <;> omega) | (right; refine ⟨?_, ?_⟩ <;> omega))))) (ge_gintX rfl T.x_THOUSAND) (by first | trivial | (first | omega | (refine ⟨?_, ?_⟩ <;> omega) | (left; refine ⟨?_, ?_⟩ <;> omega) | (right; refine ⟨?_, ?_⟩ <;> omega)) | (dsimp only; first | trivial | (first | omega | (refine ⟨?_, ?_⟩ <;> omega) | (left; refine ⟨?_, ?_⟩ <;> omega) | (right; refine ⟨?_, ?_⟩ <;> omega))))) ?_
  intro interest h_interest
  try dsimp only at h_interest
  refine gs_set 8 nd (ge_badd (ge_var 1) (ge_var 7)) ?_
  intro owed h_owed
  try dsimp only at h_owed
  refine gs_ifF (gt_le (ge_var 8) (ge_var 5)) (fun hc => ?_) (fun hc => ?_)
  · refine gs_retF (ge_tupF tr3 (ga_consF (ge_var 7) (ga_consF (ge_var 8) (ga_consF (ge_int) ga_nilF)))) ?_
    simp only [decide_eq_true_eq] at hc
    simp only [monthW]
    rw [if_pos (by omega), h_owed, h_interest]
  · refine gs_nil ?_
    simp only [decide_eq_false_iff_not] at hc
    have hi : 0 ≤ interest := by
      have := mul_div_nonneg hb0 p1
      omega
    have hi2 : interest ≤ balance := by
      have := mul_div_le hb0 p2
      omega
    refine gs_set 9 nd (ge_ifF (gt_val (ge_var 6)) (fun hk => (ge_badd (ge_var 7) (ge_bdiv (ge_bmul (ge_var 1) (ge_var 4) (by first | trivial | (first | omega | (refine ⟨?_, ?_⟩ <;> omega) | (left; refine ⟨?_, ?_⟩ <;> omega) | (right; refine ⟨?_, ?_⟩ <;> omega)) | (dsimp only; first | trivial | (first | omega | (refine ⟨?_, ?_⟩ <;> omega) | (left; refine ⟨?_, ?_⟩ <;> omega) | (right; refine ⟨?_, ?_⟩ <;> omega))))) (ge_gintX rfl T.x_THOUSAND) (by first | trivial | (first | omega | (refine ⟨?_, ?_⟩ <;> omega) | (left; refine ⟨?_, ?_⟩ <;> omega) | (right; refine ⟨?_, ?_⟩ <;> omega)) | (dsimp only; first | trivial | (first | omega | (refine ⟨?_, ?_⟩ <;> omega) | (left; refine ⟨?_, ?_⟩ <;> omega) | (right; refine ⟨?_, ?_⟩ <;> omega))))))) (fun hk => (ge_bdiv (ge_bmul (ge_var 8) (ge_var 4) (by first | trivial | (first | omega | (refine ⟨?_, ?_⟩ <;> omega) | (left; refine ⟨?_, ?_⟩ <;> omega) | (right; refine ⟨?_, ?_⟩ <;> omega)) | (dsimp only; first | trivial | (first | omega | (refine ⟨?_, ?_⟩ <;> omega) | (left; refine ⟨?_, ?_⟩ <;> omega) | (right; refine ⟨?_, ?_⟩ <;> omega))))) (ge_gintX rfl T.x_THOUSAND) (by first | trivial | (first | omega | (refine ⟨?_, ?_⟩ <;> omega) | (left; refine ⟨?_, ?_⟩ <;> omega) | (right; refine ⟨?_, ?_⟩ <;> omega)) | (dsimp only; first | trivial | (first | omega | (refine ⟨?_, ?_⟩ <;> omega) | (left; refine ⟨?_, ?_⟩ <;> omega) | (right; refine ⟨?_, ?_⟩ <;> omega))))))) ?_
    intro wanted h_wanted
    try dsimp only at h_wanted
    refine gs_set 10 nd (ge_min2 rfl T.n_min (ge_var 8) (ge_badd (ge_max2 rfl T.n_max (ge_var 5) (ge_var 9)) (ge_var 2))) ?_
    intro payment h_payment
    try dsimp only at h_payment
    refine gs_retF (ge_tupF tr3 (ga_consF (ge_var 7) (ga_consF (ge_var 10) (ga_consF (ge_bsub (ge_var 8) (ge_var 10)) ga_nilF)))) ?_
    simp only [monthW]
    rw [if_neg (by omega)]
    cases plus <;> simp at h_wanted <;> subst h_interest h_owed h_wanted h_payment <;> simp
abbrev s_month : Stmt := topS 18
theorem sc_month : FnScope ["plan", "balance"] ["plan", "balance"] (defScope s_month) := ⟨rfl, rfl, rfl, by decide +kernel, rfl, by decide +kernel, by decide +kernel⟩
abbrev c_month (ad : Ads) : Ctr (PlanD × Int × Unit) (Int × Int × Int) := ctrF (aC (jPlan ad) (aC jI aN)) (fun t => PlanOk t.1 ∧ 0 ≤ t.2.1 ∧ t.2.1 ≤ 100000) (jT3 jI jI jI) (fun t => monthW t.1 t.2.1 0)
theorem ok_month (T : Txt K mg ad) (G_need_balance : FnAt P w K mg base CX0 3 "need_balance" ["plan", "balance"] (spP (c_need_balance ad))) (G_month_with : FnAt P w K mg base CX0 1 "month_with" ["plan", "balance", "extra"] (spP (c_month_with ad)))  {f : Addr} {fd : FuncData} (F : Fun K "month" "month" s_month f fd) : FnOk P w K mg base CX0 4 f fd ["plan", "balance"] (spP (c_month ad)) := by
  refine fn_okP F sc_month (ae_cons (ae_cons ae_nil)) rfl ?_
  rintro cdv A outer s H E B ⟨plan, balance, ⟨⟩⟩ hr hpre
  have nd := sc_month.nd
  try dsimp only at hpre
  show GS _ Am.no 0 _ _ [some (.pv (jPlan ad) plan), some (.pv jI balance)] _
  obtain ⟨hP, hb0, hb1⟩ := hpre
  refine gs_expr (ge_fnF G_need_balance hr (by decide) pass0 (ga_consF (ge_var 0) (ga_consF (ge_var 1) ga_nilF)) (by first | exact ⟨hb0, hb1⟩ | (dsimp only [ctrF, c_need_balance]; exact ⟨hb0, hb1⟩))) (fun _ _ => ?_)
  refine gs_retF (ge_fnF G_month_with hr (by decide) pass0 (ga_consF (ge_var 0) (ga_consF (ge_var 1) (ga_consF (ge_int) ga_nilF))) (by first | exact ⟨hP, hb0, by omega⟩ | (dsimp only [ctrF, c_month_with]; exact ⟨hP, hb0, by omega⟩))) ?_
  rfl
abbrev s_row_with : Stmt := topS 19
theorem sc_row_with : FnScope ["plan", "balance", "extra", "found", "later"] ["plan", "balance", "extra"] (defScope s_row_with) := ⟨rfl, rfl, rfl, by decide +kernel, rfl, by decide +kernel, by decide +kernel⟩
abbrev c_row_with (ad : Ads) : Ctr (PlanD × Int × Int × Unit) (List Int) := ctrF (aC (jPlan ad) (aC jI (aC jI aN))) (fun t => PlanOk t.1 ∧ 0 ≤ t.2.1 ∧ t.2.1 ≤ 1000000) (jL jI) (fun t => rowOf t.1 t.2.2.1 t.2.1)
theorem ok_row_with (T : Txt K mg ad) (G_month_with : FnAt P w K mg base CX0 1 "month_with" ["plan", "balance", "extra"] (spP (c_month_with ad)))  {f : Addr} {fd : FuncData} (F : Fun K "row_with" "row_with" s_row_with f fd) : FnOk P w K mg base CX0 2 f fd ["plan", "balance", "extra"] (spP (c_row_with ad)) := by
  refine fn_okP F sc_row_with (ae_cons (ae_cons (ae_cons ae_nil))) rfl ?_
  rintro cdv A outer s H E B ⟨plan, balance, extra, ⟨⟩⟩ hr hpre
  have nd := sc_row_with.nd
  try dsimp only at hpre
  show GS _ Am.no 0 _ _ [some (.pv (jPlan ad) plan), some (.pv jI balance), some (.pv jI extra), none, none] _
  obtain ⟨hP, hb0, hb1⟩ := hpre
  refine gs_own 3 nd (C := jI) (gl_consF (ge_var 1) gl_nil) (by intro l e; subst e; exact (Nat.le_of_ble_eq_true rfl)) ?_
  intro p_found found h_found
  try dsimp only at h_found
  subst h_found
  refine gs_while (τ := List Int × Int) (fun t => [some (.pv (jPlan ad) plan), some (.pv jI balance), some (.pv jI extra), some (.own p_found (oL jI) (t.1 ++ [t.2])), none])
    (fun t => rowOf plan extra balance = t.1 ++ rowOf plan extra t.2 ∧ 0 ≤ t.2 ∧ (t.1.length : Int) + t.2 ≤ balance) (fun t => t.2.toNat) PassesOwn.never
    ⟨([], balance), ⟨.inr rfl, .inr rfl, .inr rfl, .inr rfl, .inr rfl, trivial⟩, rfl, hb0, by simp⟩ ?_
  rintro ⟨pre, cur⟩ ⟨i1, i2, i3⟩
  dsimp only at i1 i2 i3
  refine ⟨_, (gt_gt (ge_atO 3 (ge_neg (ge_int)) (atI_last pre cur)) (ge_int)), fun hc => ?_, fun hc => ?_⟩
  · have hc' : 0 < cur := by simpa using hc.symm
    refine gs_set 4 nd (ge_pr pr3_2 (ge_fnF G_month_with hr (by decide) pass0 (ga_consF (ge_var 0) (ga_consF (ge_atO 3 (ge_neg (ge_int)) (atI_last pre cur)) (ga_consF (ge_var 2) ga_nilF))) (by first | exact ⟨hP, i2, by omega⟩ | (dsimp only [ctrF, c_month_with]; exact ⟨hP, i2, by omega⟩)))) ?_
    intro later h_later
    have h_l : later = nxt plan extra cur := h_later
    refine gs_ifF (gt_ge (ge_var 4) (ge_atO 3 (ge_neg (ge_int)) (atI_last pre cur))) (fun hd => ?_) (fun hd => ?_)
    · simp only [decide_eq_true_eq] at hd
      refine gs_rest 3 ?_
      refine gs_retF (ge_var 3) ?_
      show pre ++ [cur] = rowOf plan extra balance
      rw [i1, rowOf_eq plan extra cur, if_neg (by omega)]
    · simp only [decide_eq_false_iff_not] at hd
      refine gs_nil ?_
      refine gs_app 3 (ge_var 4) ?_ ?_
      · rw [List.length_append]; exact lt_size (by simp; omega)
      intro a ha
      obtain rfl : later = a := ha.symm
      refine gs_end (Γ' := [some (.pv (jPlan ad) plan), some (.pv jI balance), some (.pv jI extra), some (.own p_found (oL jI) ((pre ++ [cur]) ++ [later])), none]) ⟨.inr rfl, .inr rfl, .inr rfl, .inr rfl, .inl rfl, trivial⟩ ⟨Nat.le_refl _, (pre ++ [cur], later), Wk.refl, ⟨?_, ?_, ?_⟩, ?_⟩
      · show rowOf plan extra balance = (pre ++ [cur]) ++ rowOf plan extra later
        rw [i1, rowOf_eq plan extra cur, if_pos (by omega), h_l, List.append_assoc]; rfl
      · show 0 ≤ later
        rw [h_l]; exact nxt_nonneg _ _
      · show ((pre ++ [cur]).length : Int) + later ≤ balance
        rw [List.length_append]; simp; omega
      · show later.toNat < cur.toNat
        omega
  · have hc' : ¬ 0 < cur := by simpa using hc.symm
    refine gs_rest 3 ?_
    refine gs_retF (ge_var 3) ?_
    show pre ++ [cur] = rowOf plan extra balance
    rw [i1, rowOf_eq plan extra cur, if_neg (by omega)]
abbrev s_ending : Stmt := topS 20
theorem sc_ending : FnScope ["plan", "balance", "row", "one"] ["plan", "balance"] (defScope s_ending) := ⟨rfl, rfl, rfl, by decide +kernel, rfl, by decide +kernel, by decide +kernel⟩
def endingW (p : PlanD) (b : Int) : Option (Int × Int) := if 0 < lastOf p 0 b then none else some (((rowOf p 0 b).length : Int) - 1, ((rowOf p 0 b).map fun one => (monthW p one 0).1).sum)
abbrev c_ending (ad : Ads) : Ctr (PlanD × Int × Unit) (Option (Int × Int)) := ctrF (aC (jPlan ad) (aC jI aN)) (fun t => PlanOk t.1 ∧ 0 ≤ t.2.1 ∧ t.2.1 ≤ 100000) (jO (jT2 jI jI)) (fun t => endingW t.1 t.2.1)
theorem at_last (p : PlanD) (e b : Int) : atI (rowOf p e b) (-1) = some (lastOf p e b) := by
  unfold lastOf
  have h := atI_last (rowOf p e b).dropLast ((rowOf p e b).getLast (rowOf_ne p e b))
  rwa [List.dropLast_concat_getLast] at h
theorem ok_ending (T : Txt K mg ad) (G_need_balance : FnAt P w K mg base CX0 3 "need_balance" ["plan", "balance"] (spP (c_need_balance ad))) (G_row_with : FnAt P w K mg base CX0 2 "row_with" ["plan", "balance", "extra"] (spP (c_row_with ad))) (G_month_with : FnAt P w K mg base CX0 1 "month_with" ["plan", "balance", "extra"] (spP (c_month_with ad)))  {f : Addr} {fd : FuncData} (F : Fun K "ending" "ending" s_ending f fd) : FnOk P w K mg base CX0 4 f fd ["plan", "balance"] (spP (c_ending ad)) := by
  refine fn_okP F sc_ending (ae_cons (ae_cons ae_nil)) rfl ?_
  rintro cdv A outer s H E B ⟨plan, balance, ⟨⟩⟩ hr hpre
  have nd := sc_ending.nd
  try dsimp only at hpre
  show GS _ Am.no 0 _ _ [some (.pv (jPlan ad) plan), some (.pv jI balance), none, none] _
  obtain ⟨hP, hb0, hb1⟩ := hpre
  refine gs_expr (ge_fnF G_need_balance hr (by decide) pass0 (ga_consF (ge_var 0) (ga_consF (ge_var 1) ga_nilF)) (by first | exact ⟨hb0, hb1⟩ | (dsimp only [ctrF, c_need_balance]; exact ⟨hb0, hb1⟩))) (fun _ _ => ?_)
  refine gs_set 2 nd (ge_fnF G_row_with hr (by decide) pass0 (ga_consF (ge_var 0) (ga_consF (ge_var 1) (ga_consF (ge_int) ga_nilF))) (by first | exact ⟨hP, hb0, by omega⟩ | (dsimp only [ctrF, c_row_with]; exact ⟨hP, hb0, by omega⟩))) ?_
  intro row h_row
  try dsimp only at h_row
  have h_r : row = rowOf plan 0 balance := h_row
  subst h_r
  refine gs_ifF (gt_gt (ge_at (ge_var 2) (ge_neg (ge_int)) (at_last plan 0 balance)) (ge_int)) (fun hc => ?_) (fun hc => ?_)
  · refine gs_retF (ge_none) ?_
    simp only [decide_eq_true_eq] at hc
    show _ = endingW plan balance
    unfold endingW
    rw [if_pos hc]
  · refine gs_nil ?_
    simp only [decide_eq_false_iff_not] at hc
    refine gs_retF (GE.some' (ge_tupF tr2 (ga_consF (ge_bsub (ge_lenLF T.n_len (ge_var 2)) (ge_int)) (ga_consF (ge_sum rfl T.n_sum (ge_lcM rfl nd (blkOk_by (own := [("one", 3)]) (N := ["plan", "balance", "row", "one"]) (sc := defScope s_ending) (by decide +kernel)) (gi_list (ge_var 2)) (fun _ _ _ _ _ x => (gb_name 3 nd)) (fun _ _ _ _ _ x n hx => (ge_pr pr3_0 (ge_fnF G_month_with hr (by decide) pass0 (ga_consF (ge_var 0) (ga_consF (ge_var 3) (ga_consF (ge_int) ga_nilF))) (by first | exact (by have := row_mem plan 0 balance hb0 x hx; exact ⟨hP, this.1, by omega⟩) | (dsimp only [ctrF, c_month_with]; exact (by have := row_mem plan 0 balance hb0 x hx; exact ⟨hP, this.1, by omega⟩)))))))) ga_nilF))) jT2_nn) ?_
    show _ = endingW plan balance
    unfold endingW
    rw [if_neg hc]
end
end K29

set_option Elab.async false
set_option linter.all false
set_option maxRecDepth 100000
set_option maxHeartbeats 4000000
namespace K29
open PySem L2 Gm LeastM
section
variable {P : Program} {w : World} {K : PySem.W.Frag} {mg : Str → Option Value} {base : Heap} {ad : Ads}
theorem ins_Plan (ad : Ads) : InsV (jPlan ad) ad.Plan := fun S v a ⟨p, dx, u, e, h, _⟩ => ⟨p, dx, _, e, h⟩
abbrev s_Plan___init__ : Stmt := inClass (topS 14) 0
theorem sc_Plan___init__ : FnScope ["self", "rate", "share", "least", "plus"] ["self", "rate", "share", "least", "plus"] (defScope s_Plan___init__) := ⟨rfl, rfl, rfl, by decide +kernel, rfl, by decide +kernel, by decide +kernel⟩
abbrev c_Plan___init__ (ad : Ads) : CtrI (Int × Int × Int × Bool × Unit) := ⟨aC jI (aC jI (aC jI (aC jB aN))), fun t => PlanOk (t.1, t.2.1, t.2.2.1, t.2.2.2.1), fun t => [⟨"l_parts", _, jT4 jI jI jI jB, (t.1, t.2.1, t.2.2.1, t.2.2.2.1)⟩]⟩
theorem mk_Plan (T : Txt K mg ad) : ∀ S p dx fs (t : Int × Int × Int × Bool × Unit), S p = some (.ins ad.Plan dx fs) → FldsOk S fs ((c_Plan___init__ ad).fin t) → (jPlan ad).r S (.ref p) (t.1, t.2.1, t.2.2.1, t.2.2.2.1) := by
  intro S p dx fs t h hf
  obtain ⟨u, e, r⟩ := FldsOk.one hf
  exact ⟨p, dx, u, rfl, by rw [h, e], r⟩
theorem ok_Plan___init__ (T : Txt K mg ad) (G_is_number_in : FnAt P w K mg base CX0 2 "is_number_in" ["value", "least", "most"] (spP (c_is_number_in ad)))  {f : Addr} {fd : FuncData} {dvs : List V} (F : FunD K "__init__" "Plan.__init__" (defArgs s_Plan___init__) (defBody s_Plan___init__) (defScope s_Plan___init__) dvs [] f fd) : FnOk P w K mg base CX0 3 f fd ["self", "rate", "share", "least", "plus"] (spI ad.Plan (c_Plan___init__ ad)) := by
  refine fn_okI F sc_Plan___init__ (ae_cons (ae_cons (ae_cons (ae_cons ae_nil)))) rfl ?_
  rintro cdv A outer s H E B x_self dx_self ⟨rate, share, least, plus, ⟨⟩⟩ hr hpre
  have nd := sc_Plan___init__.nd
  try dsimp only at hpre
  show GS _ Am.no 0 _ _ [some (.own x_self (oIns ad.Plan dx_self []) ()), some (.pv jI rate), some (.pv jI share), some (.pv jI least), some (.pv jB plus)] _
  obtain ⟨p1, p2, p3, p4, p5, p6⟩ := hpre
  dsimp only at p1 p2 p3 p4 p5 p6
  refine gs_skip (gt_notF (gt_val (ge_fnF G_is_number_in hr (by decide) pass0 (ga_consF (ge_var 1) (ga_consF (ge_int) (ga_consF (ge_gintX rfl T.x_THOUSAND) ga_nilF))) (by first | exact (by first | trivial | (first | omega | (refine ⟨?_, ?_⟩ <;> omega) | (left; refine ⟨?_, ?_⟩ <;> omega) | (right; refine ⟨?_, ?_⟩ <;> omega)) | (dsimp only; first | trivial | (first | omega | (refine ⟨?_, ?_⟩ <;> omega) | (left; refine ⟨?_, ?_⟩ <;> omega) | (right; refine ⟨?_, ?_⟩ <;> omega)))) | (dsimp only [ctrF, c_is_number_in]; exact (by first | trivial | (first | omega | (refine ⟨?_, ?_⟩ <;> omega) | (left; refine ⟨?_, ?_⟩ <;> omega) | (right; refine ⟨?_, ?_⟩ <;> omega)) | (dsimp only; first | trivial | (first | omega | (refine ⟨?_, ?_⟩ <;> omega) | (left; refine ⟨?_, ?_⟩ <;> omega) | (right; refine ⟨?_, ?_⟩ <;> omega))))))))) (by simp [p1, p2]) ?_
  refine gs_skip (gt_notF (gt_val (ge_fnF G_is_number_in hr (by decide) pass0 (ga_consF (ge_var 2) (ga_consF (ge_int) (ga_consF (ge_gintX rfl T.x_THOUSAND) ga_nilF))) (by first | exact (by first | trivial | (first | omega | (refine ⟨?_, ?_⟩ <;> omega) | (left; refine ⟨?_, ?_⟩ <;> omega) | (right; refine ⟨?_, ?_⟩ <;> omega)) | (dsimp only; first | trivial | (first | omega | (refine ⟨?_, ?_⟩ <;> omega) | (left; refine ⟨?_, ?_⟩ <;> omega) | (right; refine ⟨?_, ?_⟩ <;> omega)))) | (dsimp only [ctrF, c_is_number_in]; exact (by first | trivial | (first | omega | (refine ⟨?_, ?_⟩ <;> omega) | (left; refine ⟨?_, ?_⟩ <;> omega) | (right; refine ⟨?_, ?_⟩ <;> omega)) | (dsimp only; first | trivial | (first | omega | (refine ⟨?_, ?_⟩ <;> omega) | (left; refine ⟨?_, ?_⟩ <;> omega) | (right; refine ⟨?_, ?_⟩ <;> omega))))))))) (by simp [p3, p4]) ?_
  refine gs_skip (gt_notF (gt_val (ge_fnF G_is_number_in hr (by decide) pass0 (ga_consF (ge_var 3) (ga_consF (ge_int) (ga_consF (ge_gintX rfl T.x_MOST_LEAST) ga_nilF))) (by first | exact (by first | trivial | (first | omega | (refine ⟨?_, ?_⟩ <;> omega) | (left; refine ⟨?_, ?_⟩ <;> omega) | (right; refine ⟨?_, ?_⟩ <;> omega)) | (dsimp only; first | trivial | (first | omega | (refine ⟨?_, ?_⟩ <;> omega) | (left; refine ⟨?_, ?_⟩ <;> omega) | (right; refine ⟨?_, ?_⟩ <;> omega)))) | (dsimp only [ctrF, c_is_number_in]; exact (by first | trivial | (first | omega | (refine ⟨?_, ?_⟩ <;> omega) | (left; refine ⟨?_, ?_⟩ <;> omega) | (right; refine ⟨?_, ?_⟩ <;> omega)) | (dsimp only; first | trivial | (first | omega | (refine ⟨?_, ?_⟩ <;> omega) | (left; refine ⟨?_, ?_⟩ <;> omega) | (right; refine ⟨?_, ?_⟩ <;> omega))))))))) (by simp [p5, p6]) ?_
  refine gs_skip (gt_notF (gt_val (ge_isi isi_B_bool T.n_isinstance (ge_var 4) (pe_cls T.n_bool (by decide +kernel))))) (by simp) ?_
  refine gs_fldset 0 T.cl_Plan T.n_l_parts (ge_tupF tr4 (ga_consF (ge_var 1) (ga_consF (ge_var 2) (ga_consF (ge_var 3) (ga_consF (ge_var 4) ga_nilF))))) (Nat.le_of_ble_eq_true rfl) ?_
  intro a_l_parts h_l_parts
  try dsimp only at h_l_parts
  subst h_l_parts
  exact gs_nil ⟨Nat.le_refl _, rfl⟩
abbrev s_Plan_rate : Stmt := inClass (topS 14) 1
theorem sc_Plan_rate : FnScope ["self"] ["self"] (defScope s_Plan_rate) := ⟨rfl, rfl, rfl, by decide +kernel, rfl, by decide +kernel, by decide +kernel⟩
abbrev c_Plan_rate (ad : Ads) : Ctr (PlanD × Unit) Int := ctrF (aC (jPlan ad) aN) (fun _ => True) jI (fun t => t.1.1)
theorem ok_Plan_rate (T : Txt K mg ad)   {f : Addr} {fd : FuncData} (F : Fun K "rate" "Plan.rate" s_Plan_rate f fd) : FnOk P w K mg base CX0 1 f fd ["self"] (spP (c_Plan_rate ad)) := by
  refine fn_okP F sc_Plan_rate (ae_cons ae_nil) rfl ?_
  rintro cdv A outer s H E B ⟨self, ⟨⟩⟩ hr hpre
  have nd := sc_Plan_rate.nd
  try dsimp only at hpre
  show GS _ Am.no 0 _ _ [some (.pv (jPlan ad) self)] _
  refine gs_retF (ge_pr pr4_0 (ge_fld (fv_parts T) (ge_var 0))) ?_
  rfl
abbrev s_evidence : Stmt := topS 21
theorem sc_evidence : FnScope ["plan", "balance", "row"] ["plan", "balance"] (defScope s_evidence) := ⟨rfl, rfl, rfl, by decide +kernel, rfl, by decide +kernel, by decide +kernel⟩
abbrev c_evidence_n (ad : Ads) : Ctr (PlanD × Int × Unit) (Str × Int) := ctrF (aC (jPlan ad) (aC jI aN)) (fun t => PlanOk t.1 ∧ 0 ≤ t.2.1 ∧ t.2.1 ≤ 100000 ∧ 0 < lastOf t.1 0 t.2.1) (jT2 jS jI) (fun t => ("never", lastOf t.1 0 t.2.1))
theorem ok_evidence_n (T : Txt K mg ad) (G_need_balance : FnAt P w K mg base CX0 3 "need_balance" ["plan", "balance"] (spP (c_need_balance ad))) (G_row_with : FnAt P w K mg base CX0 2 "row_with" ["plan", "balance", "extra"] (spP (c_row_with ad)))  {f : Addr} {fd : FuncData} (F : Fun K "evidence" "evidence" s_evidence f fd) : FnOk P w K mg base CX0 4 f fd ["plan", "balance"] (spP (c_evidence_n ad)) := by
  refine fn_okP F sc_evidence (ae_cons (ae_cons ae_nil)) rfl ?_
  rintro cdv A outer s H E B ⟨plan, balance, ⟨⟩⟩ hr hpre
  have nd := sc_evidence.nd
  try dsimp only at hpre
  show GS _ Am.no 0 _ _ [some (.pv (jPlan ad) plan), some (.pv jI balance), none] _
  obtain ⟨hP, hb0, hb1, hl⟩ := hpre
  refine gs_expr (ge_fnF G_need_balance hr (by decide) pass0 (ga_consF (ge_var 0) (ga_consF (ge_var 1) ga_nilF)) (by first | exact ⟨hb0, hb1⟩ | (dsimp only [ctrF, c_need_balance]; exact ⟨hb0, hb1⟩))) (fun _ _ => ?_)
  refine gs_set 2 nd (ge_fnF G_row_with hr (by decide) pass0 (ga_consF (ge_var 0) (ga_consF (ge_var 1) (ga_consF (ge_int) ga_nilF))) (by first | exact ⟨hP, hb0, by omega⟩ | (dsimp only [ctrF, c_row_with]; exact ⟨hP, hb0, by omega⟩))) ?_
  intro row h_row
  try dsimp only at h_row
  have h_r : row = rowOf plan 0 balance := h_row
  subst h_r
  refine gs_retF (ge_ifT (gt_gt (ge_at (ge_var 2) (ge_neg (ge_int)) (at_last plan 0 balance)) (ge_int)) (by simp [hl]) (ge_tupF tr2 (ga_consF (ge_gstrX rfl T.x_NEVER) (ga_consF (ge_at (ge_var 2) (ge_neg (ge_int)) (at_last plan 0 balance)) ga_nilF)))) ?_
  rfl
abbrev c_evidence_e (ad : Ads) : Ctr (PlanD × Int × Unit) (Str × List Int) := ctrF (aC (jPlan ad) (aC jI aN)) (fun t => PlanOk t.1 ∧ 0 ≤ t.2.1 ∧ t.2.1 ≤ 100000 ∧ lastOf t.1 0 t.2.1 ≤ 0) (jT2 jS (jL jI)) (fun t => ("ends", rowOf t.1 0 t.2.1))
theorem ok_evidence_e (T : Txt K mg ad) (G_need_balance : FnAt P w K mg base CX0 3 "need_balance" ["plan", "balance"] (spP (c_need_balance ad))) (G_row_with : FnAt P w K mg base CX0 2 "row_with" ["plan", "balance", "extra"] (spP (c_row_with ad)))  {f : Addr} {fd : FuncData} (F : Fun K "evidence" "evidence" s_evidence f fd) : FnOk P w K mg base CX0 4 f fd ["plan", "balance"] (spP (c_evidence_e ad)) := by
  refine fn_okP F sc_evidence (ae_cons (ae_cons ae_nil)) rfl ?_
  rintro cdv A outer s H E B ⟨plan, balance, ⟨⟩⟩ hr hpre
  have nd := sc_evidence.nd
  try dsimp only at hpre
  show GS _ Am.no 0 _ _ [some (.pv (jPlan ad) plan), some (.pv jI balance), none] _
  obtain ⟨hP, hb0, hb1, hl⟩ := hpre
  refine gs_expr (ge_fnF G_need_balance hr (by decide) pass0 (ga_consF (ge_var 0) (ga_consF (ge_var 1) ga_nilF)) (by first | exact ⟨hb0, hb1⟩ | (dsimp only [ctrF, c_need_balance]; exact ⟨hb0, hb1⟩))) (fun _ _ => ?_)
  refine gs_set 2 nd (ge_fnF G_row_with hr (by decide) pass0 (ga_consF (ge_var 0) (ga_consF (ge_var 1) (ga_consF (ge_int) ga_nilF))) (by first | exact ⟨hP, hb0, by omega⟩ | (dsimp only [ctrF, c_row_with]; exact ⟨hP, hb0, by omega⟩))) ?_
  intro row h_row
  try dsimp only at h_row
  have h_r : row = rowOf plan 0 balance := h_row
  subst h_r
  refine gs_retF (ge_ifN (gt_gt (ge_at (ge_var 2) (ge_neg (ge_int)) (at_last plan 0 balance)) (ge_int)) (by simp; omega) (ge_tupF tr2 (ga_consF (ge_gstrX rfl T.x_ENDS) (ga_consF (ge_var 2) ga_nilF)))) ?_
  rfl
abbrev s_is_evidence : Stmt := topS 22
theorem sc_is_evidence : FnScope ["plan", "balance", "value", "one", "row"] ["plan", "balance", "value"] (defScope s_is_evidence) := ⟨rfl, rfl, rfl, by decide +kernel, rfl, by decide +kernel, by decide +kernel⟩
abbrev c_is_evidence (ad : Ads) : Ctr (PlanD × Int × (Str × Int) × Unit) Bool := ctrF (aC (jPlan ad) (aC jI (aC (jT2 jS jI) aN))) (fun t => PlanOk t.1 ∧ 0 ≤ t.2.1 ∧ t.2.1 ≤ 100000 ∧ t.2.2.1.1 = "never") jB (fun t => decide (1 ≤ t.2.2.1.2) && decide (t.2.2.1.2 ≤ t.2.1) && decide (t.2.2.1.2 ≤ nxt t.1 0 t.2.2.1.2))
theorem ok_is_evidence (T : Txt K mg ad) (G_need_balance : FnAt P w K mg base CX0 3 "need_balance" ["plan", "balance"] (spP (c_need_balance ad))) (G_row_with : FnAt P w K mg base CX0 2 "row_with" ["plan", "balance", "extra"] (spP (c_row_with ad))) (G_is_number_in : FnAt P w K mg base CX0 2 "is_number_in" ["value", "least", "most"] (spP (c_is_number_in ad))) (G_month_with : FnAt P w K mg base CX0 1 "month_with" ["plan", "balance", "extra"] (spP (c_month_with ad))) (G_is_number : FnAt P w K mg base CX0 1 "is_number" ["value"] (spP (c_is_number ad)))  {f : Addr} {fd : FuncData} (F : Fun K "is_evidence" "is_evidence" s_is_evidence f fd) : FnOk P w K mg base CX0 4 f fd ["plan", "balance", "value"] (spP (c_is_evidence ad)) := by
  refine fn_okP F sc_is_evidence (ae_cons (ae_cons (ae_cons ae_nil))) rfl ?_
  rintro cdv A outer s H E B ⟨plan, balance, value, ⟨⟩⟩ hr hpre
  have nd := sc_is_evidence.nd
  try dsimp only at hpre
  show GS _ Am.no 0 _ _ [some (.pv (jPlan ad) plan), some (.pv jI balance), some (.pv (jT2 jS jI) value), none, none] _
  obtain ⟨hP, hb0, hb1, hl⟩ := hpre
  refine gs_expr (ge_fnF G_need_balance hr (by decide) pass0 (ga_consF (ge_var 0) (ga_consF (ge_var 1) ga_nilF)) (by first | exact ⟨hb0, hb1⟩ | (dsimp only [ctrF, c_need_balance]; exact ⟨hb0, hb1⟩))) (fun _ _ => ?_)
  refine gs_skip (GW.gt (gw_orF (gt_notF (gt_val (ge_isi isi_T2_tuple T.n_isinstance (ge_var 2) (pe_cls T.n_tuple (by decide +kernel))))) (fun hk => (gw_orF (gt_ne (ge_lenW lv2 T.n_len (ge_var 2)) (ge_int)) (fun hk => (gw_or1 (gt_notF (gt_val (ge_isi isi_S_str T.n_isinstance (ge_pr pr2_0 (ge_var 2)) (pe_cls T.n_str (by decide +kernel))))))))))) (by simp) ?_
  refine gs_ifF (gt_eqS (ge_pr pr2_0 (ge_var 2)) (ge_gstrX rfl T.x_NEVER)) (fun hc => ?_) (fun hc => ?_)
  · refine gs_retF (ge_and (ge_fnF G_is_number_in hr (by decide) pass0 (ga_consF (ge_pr pr2_1 (ge_var 2)) (ga_consF (ge_int) (ga_consF (ge_var 1) ga_nilF))) (by first | exact (by first | trivial | (first | omega | (refine ⟨?_, ?_⟩ <;> omega) | (left; refine ⟨?_, ?_⟩ <;> omega) | (right; refine ⟨?_, ?_⟩ <;> omega)) | (dsimp only; first | trivial | (first | omega | (refine ⟨?_, ?_⟩ <;> omega) | (left; refine ⟨?_, ?_⟩ <;> omega) | (right; refine ⟨?_, ?_⟩ <;> omega)))) | (dsimp only [ctrF, c_is_number_in]; exact (by first | trivial | (first | omega | (refine ⟨?_, ?_⟩ <;> omega) | (left; refine ⟨?_, ?_⟩ <;> omega) | (right; refine ⟨?_, ?_⟩ <;> omega)) | (dsimp only; first | trivial | (first | omega | (refine ⟨?_, ?_⟩ <;> omega) | (left; refine ⟨?_, ?_⟩ <;> omega) | (right; refine ⟨?_, ?_⟩ <;> omega))))))) (fun hk => (ge_one (ge_ge (ge_pr pr3_2 (ge_fnF G_month_with hr (by decide) pass0 (ga_consF (ge_var 0) (ga_consF (ge_pr pr2_1 (ge_var 2)) (ga_consF (ge_int) ga_nilF))) (by first | exact ⟨hP, by simp at hk; omega, by simp at hk; omega⟩ | (dsimp only [ctrF, c_month_with]; exact ⟨hP, by simp at hk; omega, by simp at hk; omega⟩)))) (ge_pr pr2_1 (ge_var 2)))))) ?_
    rfl
  · rw [hl] at hc
    simp at hc
theorem cdiv_pos {p : PlanD} {x : Int} (h : PlanOk p) (h1 : 1 ≤ p.1) : CDiv x p.1 := ⟨by omega, by have := h.2.1; omega⟩
abbrev s_first_with : Stmt := topS 23
theorem sc_first_with : FnScope ["plan", "interest"] ["plan", "interest"] (defScope s_first_with) := ⟨rfl, rfl, rfl, by decide +kernel, rfl, by decide +kernel, by decide +kernel⟩
abbrev c_first_with (ad : Ads) : Ctr (PlanD × Int × Unit) Int := ctrF (aC (jPlan ad) (aC jI aN)) (fun t => PlanOk t.1 ∧ 1 ≤ t.1.1) jI (fun t => ceilW t.1 t.2.1)
theorem ok_first_with (T : Txt K mg ad) (PR_rate : PropAt P w K mg base CX0 1 ad.Plan "rate" (spP (c_Plan_rate ad)))  {f : Addr} {fd : FuncData} (F : Fun K "first_with" "first_with" s_first_with f fd) : FnOk P w K mg base CX0 3 f fd ["plan", "interest"] (spP (c_first_with ad)) := by
  refine fn_okP F sc_first_with (ae_cons (ae_cons ae_nil)) rfl ?_
  rintro cdv A outer s H E B ⟨plan, interest, ⟨⟩⟩ hr hpre
  have nd := sc_first_with.nd
  try dsimp only at hpre
  show GS _ Am.no 0 _ _ [some (.pv (jPlan ad) plan), some (.pv jI interest)] _
  refine gs_retF (ge_neg (ge_bdiv (ge_bmul (ge_neg (ge_var 1)) (ge_gintX rfl T.x_THOUSAND) (by first | trivial | (first | omega | (refine ⟨?_, ?_⟩ <;> omega) | (left; refine ⟨?_, ?_⟩ <;> omega) | (right; refine ⟨?_, ?_⟩ <;> omega)) | (dsimp only; first | trivial | (first | omega | (refine ⟨?_, ?_⟩ <;> omega) | (left; refine ⟨?_, ?_⟩ <;> omega) | (right; refine ⟨?_, ?_⟩ <;> omega))))) (ge_prop PR_rate (ins_Plan ad) T.cl_Plan hr (by decide) pass0 (ge_var 0) (by first | trivial | (first | omega | (refine ⟨?_, ?_⟩ <;> omega) | (left; refine ⟨?_, ?_⟩ <;> omega) | (right; refine ⟨?_, ?_⟩ <;> omega)) | (dsimp only; first | trivial | (first | omega | (refine ⟨?_, ?_⟩ <;> omega) | (left; refine ⟨?_, ?_⟩ <;> omega) | (right; refine ⟨?_, ?_⟩ <;> omega))))) (cdiv_pos hpre.1 hpre.2))) ?_
  rfl
end
end K29

set_option Elab.async false
set_option linter.all false
set_option maxRecDepth 100000
set_option maxHeartbeats 4000000
namespace K29
open PySem L2 Gm LeastM
section
variable {P : Program} {w : World} {K : PySem.W.Frag} {mg : Str → Option Value} {base : Heap} {ad : Ads}
abbrev s_least_endless : Stmt := topS 24
theorem sc_least_endless : FnScope ["plan", "rate", "share", "least", "plus", "balance", "over", "interest"] ["plan"] (defScope s_least_endless) := ⟨rfl, rfl, rfl, by decide +kernel, rfl, by decide +kernel, by decide +kernel⟩
abbrev c_least_endless (ad : Ads) : Ctr (PlanD × Unit) (Option Int) := ctrF (aC (jPlan ad) aN) (fun t => PlanOk t.1) (jO jI) (fun t => firstW t.1)
theorem ok_least_endless (T : Txt K mg ad) (G_need_plan : FnAt P w K mg base CX0 1 "need_plan" ["value"] (spP (c_need_plan ad))) (G_first_with : FnAt P w K mg base CX0 3 "first_with" ["plan", "interest"] (spP (c_first_with ad)))  {f : Addr} {fd : FuncData} (F : Fun K "least_endless" "least_endless" s_least_endless f fd) : FnOk P w K mg base CX0 4 f fd ["plan"] (spP (c_least_endless ad)) := by
  refine fn_okP F sc_least_endless (ae_cons ae_nil) rfl ?_
  rintro cdv A outer s H E B ⟨plan, ⟨⟩⟩ hr hpre
  have nd := sc_least_endless.nd
  try dsimp only at hpre
  show GS _ Am.no 0 _ _ [some (.pv (jPlan ad) plan), none, none, none, none, none, none, none] _
  refine gs_expr (ge_fnF G_need_plan hr (by decide) pass0 (ga_consF (ge_var 0) ga_nilF) (by first | exact (by first | trivial | (first | omega | (refine ⟨?_, ?_⟩ <;> omega) | (left; refine ⟨?_, ?_⟩ <;> omega) | (right; refine ⟨?_, ?_⟩ <;> omega)) | (dsimp only; first | trivial | (first | omega | (refine ⟨?_, ?_⟩ <;> omega) | (left; refine ⟨?_, ?_⟩ <;> omega) | (right; refine ⟨?_, ?_⟩ <;> omega)))) | (dsimp only [ctrF, c_need_plan]; exact (by first | trivial | (first | omega | (refine ⟨?_, ?_⟩ <;> omega) | (left; refine ⟨?_, ?_⟩ <;> omega) | (right; refine ⟨?_, ?_⟩ <;> omega)) | (dsimp only; first | trivial | (first | omega | (refine ⟨?_, ?_⟩ <;> omega) | (left; refine ⟨?_, ?_⟩ <;> omega) | (right; refine ⟨?_, ?_⟩ <;> omega))))))) (fun _ _ => ?_)
  refine gs_asg (js := [1, 2, 3, 4]) (fun z => (gb_tup rfl to4 (gbs_cons (gb_name 1 nd) (gbs_cons (gb_name 2 nd) (gbs_cons (gb_name 3 nd) (gbs_cons (gb_name 4 nd) gbs_nil)))))) (ge_fld (fv_parts T) (ge_var 0)) ?_ (fun z on => (OwnNew.setPv 4 (OwnNew.setPv 3 (OwnNew.setPv 2 (OwnNew.setPv 1 on)))))
  rintro ⟨rate, share, least, plus⟩ h_t
  try dsimp only at h_t
  cases h_t
  have hP := hpre
  obtain ⟨p1, p2, p3, p4, p5, p6⟩ := hpre
  dsimp only at p1 p2 p3 p4 p5 p6
  refine gs_ifF (gt_eq (ge_var 1) (ge_int)) (fun hc => ?_) (fun hc => ?_)
  · refine gs_retF (ge_none) ?_
    simp only [decide_eq_true_eq] at hc
    show none = firstW _
    refine (first_none hP fun h => ?_).symm
    dsimp only at h; omega
  · refine gs_nil ?_
    simp only [decide_eq_false_iff_not] at hc
    have hr1 : 1 ≤ rate := by omega
    refine gs_set 5 nd (ge_fnF G_first_with hr (by decide) pass0 (ga_consF (ge_var 0) (ga_consF (ge_var 3) ga_nilF)) (by first | exact ⟨hP, hr1⟩ | (dsimp only [ctrF, c_first_with]; exact ⟨hP, hr1⟩))) ?_
    intro balance h_balance
    try dsimp only at h_balance
    have hcl := fun i => ceil_eq (p := (rate, share, least, plus)) hr1 i
    refine gs_ifF (gt_val (ge_var 4)) (fun hc => ?_) (fun hc => ?_)
    · refine gs_retF (ge_ifF (gt_lt (ge_bmul (ge_var 5) (ge_var 2) (by first | trivial | (first | omega | (refine ⟨?_, ?_⟩ <;> omega) | (left; refine ⟨?_, ?_⟩ <;> omega) | (right; refine ⟨?_, ?_⟩ <;> omega)) | (dsimp only; first | trivial | (first | omega | (refine ⟨?_, ?_⟩ <;> omega) | (left; refine ⟨?_, ?_⟩ <;> omega) | (right; refine ⟨?_, ?_⟩ <;> omega))))) (ge_gintX rfl T.x_THOUSAND)) (fun hk => (GE.some' (ge_var 5) jI_nn)) (fun hk => (ge_none))) ?_
      have hq : plus = true := hc
      show _ = firstW _
      have hcp := cond_plus hP hr1 hq
      have hz : balance = (1000 * least + rate - 1) / rate := by rw [h_balance]; exact hcl least
      by_cases hb : balance * share < 1000
      · rw [if_pos (by simpa using hb)]
        rw [first_some hP hr1 (k := least) (Int.le_refl _) ((hcp least).mpr (by rw [← hz]; exact hb)) (fun j h1 h2 => by dsimp only at h1; omega)]
        show some balance = some ((1000 * least + rate - 1) / rate)
        rw [hz]
      · rw [if_neg (by simpa using hb)]
        refine (first_none hP fun _ j h1 => ?_).symm
        rw [hcp j]
        have hm := ceil_mono (p := (rate, share, least, plus)) hr1 (show least ≤ j from h1)
        dsimp only at hm ⊢
        rw [← hz] at hm
        have := Int.mul_le_mul_of_nonneg_right hm p3
        omega
    · refine gs_nil ?_
      have hq : plus = false := hc
      have hcm := cond_minus hP hr1 hq
      refine gs_set 6 nd (ge_bsub (ge_bmul (ge_var 2) (ge_badd (ge_gintX rfl T.x_THOUSAND) (ge_var 1)) (by first | trivial | (first | omega | (refine ⟨?_, ?_⟩ <;> omega) | (left; refine ⟨?_, ?_⟩ <;> omega) | (right; refine ⟨?_, ?_⟩ <;> omega)) | (dsimp only; first | trivial | (first | omega | (refine ⟨?_, ?_⟩ <;> omega) | (left; refine ⟨?_, ?_⟩ <;> omega) | (right; refine ⟨?_, ?_⟩ <;> omega))))) (ge_bmul (ge_gintX rfl T.x_THOUSAND) (ge_var 1) (by first | trivial | (first | omega | (refine ⟨?_, ?_⟩ <;> omega) | (left; refine ⟨?_, ?_⟩ <;> omega) | (right; refine ⟨?_, ?_⟩ <;> omega)) | (dsimp only; first | trivial | (first | omega | (refine ⟨?_, ?_⟩ <;> omega) | (left; refine ⟨?_, ?_⟩ <;> omega) | (right; refine ⟨?_, ?_⟩ <;> omega)))))) ?_
      intro over h_over
      try dsimp only at h_over
      have h_o2 : over ≤ 2000000 := by
        have := Int.mul_le_mul p4 (show (1000 + rate : Int) ≤ 2000 by omega) (by omega) (by omega)
        rw [h_over]; omega
      have h_o : over = LeastM.over (rate, share, least, plus) := h_over
      refine gs_ifF (gt_le (ge_var 6) (ge_int)) (fun hc => ?_) (fun hc => ?_)
      · refine gs_retF (GE.some' (ge_var 5) jI_nn) ?_
        simp only [decide_eq_true_eq] at hc
        show some balance = firstW _
        rw [first_some hP hr1 (k := least) (Int.le_refl _) (cond_all hP hr1 hq (by rw [← h_o]; exact hc) (by omega)) (fun j h1 h2 => by dsimp only at h1; omega), h_balance]
        exact congrArg some (hcl least)
      · refine gs_nil ?_
        simp only [decide_eq_false_iff_not] at hc
        refine gs_set 7 nd (ge_var 3) ?_
        intro interest h_interest
        try dsimp only at h_interest
        refine gs_while (τ := Int × Int) (fun t => [some (.pv (jPlan ad) (rate, share, least, plus)), some (.pv jI rate), some (.pv jI share), some (.pv jI least), some (.pv jB plus), some (.pv jI t.1), some (.pv jI over), some (.pv jI t.2)])
          (fun t => least ≤ t.2 ∧ ∀ j, least ≤ j → j < t.2 → ¬ cond (rate, share, least, plus) j) (fun t => (1000 * rate - t.2 * over).toNat) PassesOwn.never
          ⟨(balance, interest), ⟨.inr rfl, .inr rfl, .inr rfl, .inr rfl, .inr rfl, .inr rfl, .inr rfl, .inr rfl, trivial⟩, by dsimp only; omega, fun j h1 h2 => by dsimp only at h2; omega⟩ ?_
        rintro ⟨b0, i0⟩ ⟨i1, i2⟩
        dsimp only at i1 i2
        refine ⟨_, (gt_lt (ge_bmul (ge_var 7) (ge_var 6) (by first | trivial | (first | omega | (refine ⟨?_, ?_⟩ <;> omega) | (left; refine ⟨?_, ?_⟩ <;> omega) | (right; refine ⟨?_, ?_⟩ <;> omega)) | (dsimp only; first | trivial | (first | omega | (refine ⟨?_, ?_⟩ <;> omega) | (left; refine ⟨?_, ?_⟩ <;> omega) | (right; refine ⟨?_, ?_⟩ <;> omega))))) (ge_bmul (ge_gintX rfl T.x_THOUSAND) (ge_var 1) (by first | trivial | (first | omega | (refine ⟨?_, ?_⟩ <;> omega) | (left; refine ⟨?_, ?_⟩ <;> omega) | (right; refine ⟨?_, ?_⟩ <;> omega)) | (dsimp only; first | trivial | (first | omega | (refine ⟨?_, ?_⟩ <;> omega) | (left; refine ⟨?_, ?_⟩ <;> omega) | (right; refine ⟨?_, ?_⟩ <;> omega)))))), fun hc1 => ?_, fun hc1 => ?_⟩
        · have hc1' : i0 * over < 1000 * rate := by simpa using hc1.symm
          refine gs_set 5 nd (ge_fnF G_first_with hr (by decide) pass0 (ga_consF (ge_var 0) (ga_consF (ge_var 7) ga_nilF)) (by first | exact ⟨hP, hr1⟩ | (dsimp only [ctrF, c_first_with]; exact ⟨hP, hr1⟩))) ?_
          intro b1 h_b1
          have h_b : b1 = (1000 * i0 + rate - 1) / rate := h_b1.trans (hcl i0)
          have hin := ceil_intr (p := (rate, share, least, plus)) hr1 p2 i0
          dsimp only at hin
          rw [← h_b] at hin
          have hcd : cond (rate, share, least, plus) i0 ↔ (b1 + i0) * share / 1000 ≤ i0 := by
            unfold LeastM.cond wanted
            dsimp only
            rw [if_neg (by simp [hq]), ← h_b, hin]
          refine gs_ifF (gt_le (ge_bdiv (ge_bmul (ge_badd (ge_var 5) (ge_var 7)) (ge_var 2) (by first | trivial | (first | omega | (refine ⟨?_, ?_⟩ <;> omega) | (left; refine ⟨?_, ?_⟩ <;> omega) | (right; refine ⟨?_, ?_⟩ <;> omega)) | (dsimp only; first | trivial | (first | omega | (refine ⟨?_, ?_⟩ <;> omega) | (left; refine ⟨?_, ?_⟩ <;> omega) | (right; refine ⟨?_, ?_⟩ <;> omega))))) (ge_gintX rfl T.x_THOUSAND) (by first | trivial | (first | omega | (refine ⟨?_, ?_⟩ <;> omega) | (left; refine ⟨?_, ?_⟩ <;> omega) | (right; refine ⟨?_, ?_⟩ <;> omega)) | (dsimp only; first | trivial | (first | omega | (refine ⟨?_, ?_⟩ <;> omega) | (left; refine ⟨?_, ?_⟩ <;> omega) | (right; refine ⟨?_, ?_⟩ <;> omega))))) (ge_var 7)) (fun hd => ?_) (fun hd => ?_)
          · simp only [decide_eq_true_eq] at hd
            refine gs_retF (GE.some' (ge_var 5) jI_nn) ?_
            show some b1 = firstW _
            rw [first_some hP hr1 (k := i0) i1 (hcd.mpr hd) i2, h_b]
          · simp only [decide_eq_false_iff_not] at hd
            refine gs_nil ?_
            refine gs_augadd 7 nd (ge_int) ?_
            rintro i' ⟨_, rfl, h_i⟩
            refine gs_nil ⟨Nat.le_refl _, (b1, i'), ⟨.inr rfl, .inr rfl, .inr rfl, .inr rfl, .inr rfl, .inr rfl, .inr rfl, .inr rfl, trivial⟩, ⟨by dsimp only; omega, fun j h1 h2 => ?_⟩, ?_⟩
            · dsimp only at h2
              by_cases hj : j < i0
              · exact i2 j h1 hj
              · have : j = i0 := by omega
                subst this
                exact fun hh => hd (hcd.mp hh)
            · show (1000 * rate - i' * over).toNat < (1000 * rate - i0 * over).toNat
              have h_i' : i' = i0 + 1 := h_i
              have : (i0 + 1) * over = i0 * over + over := by rw [Int.add_mul]; omega
              rw [h_i', this]; omega
        · have hc1' : ¬ i0 * over < 1000 * rate := by simpa using hc1.symm
          refine gs_retF (ge_none) ?_
          show none = firstW _
          refine (first_none hP fun _ j h1 hj => ?_).symm
          by_cases hji : j < i0
          · exact i2 j h1 hji hj
          · have hb := cond_bound hP hr1 hq (show 0 ≤ j by dsimp only at h1; omega) hj
            rw [← h_o] at hb
            dsimp only at hb
            have := Int.mul_le_mul_of_nonneg_right (show i0 ≤ j by omega) (show 0 ≤ over by omega)
            omega
end
end K29

set_option Elab.async false
set_option linter.all false
set_option maxRecDepth 100000
set_option maxHeartbeats 4000000
namespace K29
open PySem L2 Gm LeastM
section
variable {P : Program} {w : World} {K : PySem.W.Frag} {mg : Str → Option Value} {base : Heap} {ad : Ads}
abbrev s_law_pick : Stmt := topS 29
theorem sc_law_pick : FnScope ["state", "some"] ["state", "some"] (defScope s_law_pick) := ⟨rfl, rfl, rfl, by decide +kernel, rfl, by decide +kernel, by decide +kernel⟩
abbrev c_law_pick (ad : Ads) : CtrS (List Int × Unit) Int := ⟨aC (jL jI) aN, fun t => 0 < t.1.length ∧ t.1.length < 1000, jI, fun t a => a ∈ t.1, fun _ => 1⟩
theorem ok_law_pick (T : Txt K mg ad) (G_law_take : FnAt P w K mg base CX0 2 "_law_take" ["state", "size"] (spS (c_law_take ad)))  {f : Addr} {fd : FuncData} (F : Fun K "_law_pick" "_law_pick" s_law_pick f fd) : FnOk P w K mg base CX0 3 f fd ["state", "some"] (spS (c_law_pick ad)) := by
  refine fn_okS F sc_law_pick (ae_cons ae_nil) rfl ?_
  rintro cdv A outer s H E B p_st l_st c_st d0 ⟨some_, ⟨⟩⟩ hr hpre hlim
  have nd := sc_law_pick.nd
  try dsimp only at hpre
  show GS _ (dm p_st l_st c_st) d0 _ _ [some (.pv jV (.ref p_st)), some (.pv (jL jI) some_)] _
  have hl1 : d0 + 1 ≤ lim := hlim
  obtain ⟨q1, q2⟩ := hpre
  have q3 : 0 < (some_.length : Int) ∧ (some_.length : Int) < 1073741824 := by omega
  exact gs_ret (ge_atP (ge_var 1) (ge_stF G_law_take hr (by decide) pass0 (ge_var 0) (ga_consF (ge_lenLF T.n_len (ge_var 1)) ga_nilF) (by first | exact q3 | (dsimp only [c_law_take]; exact q3)) (by omega)) (fun i h => h)) (fun a h => h)
abbrev s_law_parts : Stmt := topS 30
theorem sc_law_parts : FnScope ["state", "rated", "even", "part", "edge", "near", "low"] ["state"] (defScope s_law_parts) := ⟨rfl, rfl, rfl, by decide +kernel, rfl, by decide +kernel, by decide +kernel⟩
abbrev c_law_parts (ad : Ads) : CtrS Unit PlanD := ⟨aN, fun _ => True, jT4 jI jI jI jB, fun _ a => PlanOk a, fun _ => 11⟩
theorem in60 : ∀ z, (∃ x y : Int, x = 1 ∧ (0 ≤ y ∧ y < ((60 : Int), ()).1) ∧ z = x + y) → 0 ≤ z ∧ z ≤ 1000 := fun z ⟨x, y, e1, ⟨e2, e3⟩, e4⟩ => by dsimp only at e3; omega
theorem in1000 : ∀ z, (∃ x y : Int, x = 1 ∧ (0 ≤ y ∧ y < ((1000 : Int), ()).1) ∧ z = x + y) → 0 ≤ z ∧ z ≤ 1000 := fun z ⟨x, y, e1, ⟨e2, e3⟩, e4⟩ => by dsimp only at e3; omega
theorem ok_law_parts (T : Txt K mg ad) (G_law_pick : FnAt P w K mg base CX0 3 "_law_pick" ["state", "some"] (spS (c_law_pick ad))) (G_law_take : FnAt P w K mg base CX0 2 "_law_take" ["state", "size"] (spS (c_law_take ad)))  {f : Addr} {fd : FuncData} (F : Fun K "_law_parts" "_law_parts" s_law_parts f fd) : FnOk P w K mg base CX0 4 f fd ["state"] (spS (c_law_parts ad)) := by
  refine fn_okS F sc_law_parts ae_nil rfl ?_
  rintro cdv A outer s H E B p_st l_st c_st d0 ⟨⟩ hr hpre hlim
  have nd := sc_law_parts.nd
  try dsimp only at hpre
  show GS _ (dm p_st l_st c_st) d0 _ _ [some (.pv jV (.ref p_st)), none, none, none, none, none, none] _
  have hl1 : d0 + 11 ≤ lim := hlim
  have pk : ∀ {n : Nat} {P : Int → Prop} (t : List Int × Unit), ((t.1.length = n ∧ ∀ x ∈ t.1, P x) ∧ True) → 0 < n ∧ n < 1000 → (0 < t.1.length ∧ t.1.length < 1000) ∧ 1 ≤ 1 := fun t h hn => ⟨by rw [h.1.1]; exact hn, Nat.le_refl _⟩
  refine gs_set 1 nd (ge_stP (P2 := fun z : Int => 0 ≤ z ∧ z ≤ 1000) G_law_pick hr (by decide) pass0 1 (ge_var 0) (ga_cons (ge_lst (gl_consP (ge_int) (fun z e => by rw [e]; omega) (gl_consP (ge_int) (fun z e => by rw [e]; omega) (gl_consP (ge_int) (fun z e => by rw [e]; omega) (gl_consP (ge_int) (fun z e => by rw [e]; omega) (gl_consP (ge_addP (ge_int) (ge_stF G_law_take hr (by decide) pass0 (ge_var 0) (ga_consF (ge_int) ga_nilF) (by first | exact (by first | trivial | (first | omega | (refine ⟨?_, ?_⟩ <;> omega) | (left; refine ⟨?_, ?_⟩ <;> omega) | (right; refine ⟨?_, ?_⟩ <;> omega)) | (dsimp only; first | trivial | (first | omega | (refine ⟨?_, ?_⟩ <;> omega) | (left; refine ⟨?_, ?_⟩ <;> omega) | (right; refine ⟨?_, ?_⟩ <;> omega)))) | (dsimp only [c_law_take]; exact (by first | trivial | (first | omega | (refine ⟨?_, ?_⟩ <;> omega) | (left; refine ⟨?_, ?_⟩ <;> omega) | (right; refine ⟨?_, ?_⟩ <;> omega)) | (dsimp only; first | trivial | (first | omega | (refine ⟨?_, ?_⟩ <;> omega) | (left; refine ⟨?_, ?_⟩ <;> omega) | (right; refine ⟨?_, ?_⟩ <;> omega)))))) (by omega))) in60 (gl_consP (ge_addP (ge_int) (ge_stF G_law_take hr (by decide) pass0 (ge_var 0) (ga_consF (ge_int) ga_nilF) (by first | exact (by first | trivial | (first | omega | (refine ⟨?_, ?_⟩ <;> omega) | (left; refine ⟨?_, ?_⟩ <;> omega) | (right; refine ⟨?_, ?_⟩ <;> omega)) | (dsimp only; first | trivial | (first | omega | (refine ⟨?_, ?_⟩ <;> omega) | (left; refine ⟨?_, ?_⟩ <;> omega) | (right; refine ⟨?_, ?_⟩ <;> omega)))) | (dsimp only [c_law_take]; exact (by first | trivial | (first | omega | (refine ⟨?_, ?_⟩ <;> omega) | (left; refine ⟨?_, ?_⟩ <;> omega) | (right; refine ⟨?_, ?_⟩ <;> omega)) | (dsimp only; first | trivial | (first | omega | (refine ⟨?_, ?_⟩ <;> omega) | (left; refine ⟨?_, ?_⟩ <;> omega) | (right; refine ⟨?_, ?_⟩ <;> omega)))))) (by omega))) in1000 gl_nilP)))))) (fun l h => by rw [h.1]; decide)) ga_nil) (fun t h => pk t h (by decide)) (fun t a h ha => h.1.2 a ha) (by omega)) ?_
  rintro rated ⟨r0, r1⟩
  refine gs_set 2 nd (ge_bdiv (ge_bmul (ge_int) (ge_var 1) (.inl (by omega))) (ge_badd (ge_int) (ge_var 1)) (by constructor <;> omega)) ?_
  intro even h_even
  try dsimp only at h_even
  have ev0 : 0 ≤ even := by
    rw [h_even]; exact Int.ediv_nonneg (by omega) (by omega)
  have ev1 : even ≤ 500 := by
    rw [h_even]
    have : (1000 * rated) / (1000 + rated) < 501 := Int.ediv_lt_of_lt_mul (by omega) (by omega)
    omega
  refine gs_set 3 nd (ge_stP (P2 := fun z : Int => 0 ≤ z ∧ z ≤ 1000) G_law_pick hr (by decide) pass0 1 (ge_var 0) (ga_cons (ge_lst (gl_consP (ge_var 2) (fun z e => by rw [e]; omega) (gl_consP (ge_badd (ge_var 2) (ge_int)) (fun z e => by rw [e]; omega) (gl_consP (ge_badd (ge_var 2) (ge_int)) (fun z e => by rw [e]; omega) (gl_consP (ge_badd (ge_var 2) (ge_int)) (fun z e => by rw [e]; omega) (gl_consP (ge_stF G_law_take hr (by decide) pass0 (ge_var 0) (ga_consF (ge_int) ga_nilF) (by first | exact (by first | trivial | (first | omega | (refine ⟨?_, ?_⟩ <;> omega) | (left; refine ⟨?_, ?_⟩ <;> omega) | (right; refine ⟨?_, ?_⟩ <;> omega)) | (dsimp only; first | trivial | (first | omega | (refine ⟨?_, ?_⟩ <;> omega) | (left; refine ⟨?_, ?_⟩ <;> omega) | (right; refine ⟨?_, ?_⟩ <;> omega)))) | (dsimp only [c_law_take]; exact (by first | trivial | (first | omega | (refine ⟨?_, ?_⟩ <;> omega) | (left; refine ⟨?_, ?_⟩ <;> omega) | (right; refine ⟨?_, ?_⟩ <;> omega)) | (dsimp only; first | trivial | (first | omega | (refine ⟨?_, ?_⟩ <;> omega) | (left; refine ⟨?_, ?_⟩ <;> omega) | (right; refine ⟨?_, ?_⟩ <;> omega)))))) (by omega)) (fun z ⟨e4, e5⟩ => by dsimp only at e5; omega) gl_nilP))))) (fun l h => by rw [h.1]; decide)) ga_nil) (fun t h => pk t h (by decide)) (fun t a h ha => h.1.2 a ha) (by omega)) ?_
  rintro part ⟨t0, t1⟩
  have hm1 : 0 ≤ part * (1000 + rated) := Int.mul_nonneg t0 (by omega)
  have hm2 : part * (1000 + rated) ≤ 1000 * 2000 := Int.mul_le_mul t1 (by omega) (by omega) (by omega)
  refine gs_set 4 nd (ge_bdiv (ge_bmul (ge_int) (ge_var 1) (.inl (by omega))) (ge_max2 rfl T.n_max (ge_int) (ge_bsub (ge_bmul (ge_var 3) (ge_badd (ge_int) (ge_var 1)) (.inr (by omega))) (ge_bmul (ge_int) (ge_var 1) (.inl (by omega))))) (by constructor <;> omega)) ?_
  intro edge h_edge
  try dsimp only at h_edge
  refine gs_set 5 nd (C := jL jI) (ge_lst (gl_consP (ge_var 4) (fun _ _ => trivial) (gl_consP (ge_badd (ge_var 4) (ge_int)) (fun _ _ => trivial) (gl_consP (ge_subP (ge_var 4) (ge_stF G_law_take hr (by decide) pass0 (ge_var 0) (ga_consF (ge_int) ga_nilF) (by first | exact (by first | trivial | (first | omega | (refine ⟨?_, ?_⟩ <;> omega) | (left; refine ⟨?_, ?_⟩ <;> omega) | (right; refine ⟨?_, ?_⟩ <;> omega)) | (dsimp only; first | trivial | (first | omega | (refine ⟨?_, ?_⟩ <;> omega) | (left; refine ⟨?_, ?_⟩ <;> omega) | (right; refine ⟨?_, ?_⟩ <;> omega)))) | (dsimp only [c_law_take]; exact (by first | trivial | (first | omega | (refine ⟨?_, ?_⟩ <;> omega) | (left; refine ⟨?_, ?_⟩ <;> omega) | (right; refine ⟨?_, ?_⟩ <;> omega)) | (dsimp only; first | trivial | (first | omega | (refine ⟨?_, ?_⟩ <;> omega) | (left; refine ⟨?_, ?_⟩ <;> omega) | (right; refine ⟨?_, ?_⟩ <;> omega)))))) (by omega))) (fun _ _ => trivial) (gl_consP (ge_subP (ge_var 4) (ge_stF G_law_take hr (by decide) pass0 (ge_var 0) (ga_consF (ge_badd (ge_int) (ge_var 1)) ga_nilF) (by first | exact (by constructor <;> omega) | (dsimp only [c_law_take]; exact (by constructor <;> omega))) (by omega))) (fun _ _ => trivial) gl_nilP)))) (fun l h => by rw [h.1]; decide)) ?_
  rintro near ⟨n0, _⟩
  refine gs_set 6 nd (ge_stP (P2 := fun _ : Int => True) G_law_pick hr (by decide) pass0 1 (ge_var 0) (ga_cons (ge_cat (ge_var 5) (ge_lst (gl_consP (ge_addP (ge_int) (ge_stF G_law_take hr (by decide) pass0 (ge_var 0) (ga_consF (ge_int) ga_nilF) (by first | exact (by first | trivial | (first | omega | (refine ⟨?_, ?_⟩ <;> omega) | (left; refine ⟨?_, ?_⟩ <;> omega) | (right; refine ⟨?_, ?_⟩ <;> omega)) | (dsimp only; first | trivial | (first | omega | (refine ⟨?_, ?_⟩ <;> omega) | (left; refine ⟨?_, ?_⟩ <;> omega) | (right; refine ⟨?_, ?_⟩ <;> omega)))) | (dsimp only [c_law_take]; exact (by first | trivial | (first | omega | (refine ⟨?_, ?_⟩ <;> omega) | (left; refine ⟨?_, ?_⟩ <;> omega) | (right; refine ⟨?_, ?_⟩ <;> omega)) | (dsimp only; first | trivial | (first | omega | (refine ⟨?_, ?_⟩ <;> omega) | (left; refine ⟨?_, ?_⟩ <;> omega) | (right; refine ⟨?_, ?_⟩ <;> omega)))))) (by omega))) (fun _ _ => trivial) (gl_consP (ge_addP (ge_int) (ge_stF G_law_take hr (by decide) pass0 (ge_var 0) (ga_consF (ge_bpow (ge_int) (ge_int) (by first | trivial | (first | omega | (refine ⟨?_, ?_⟩ <;> omega) | (left; refine ⟨?_, ?_⟩ <;> omega) | (right; refine ⟨?_, ?_⟩ <;> omega)) | (dsimp only; first | trivial | (first | omega | (refine ⟨?_, ?_⟩ <;> omega) | (left; refine ⟨?_, ?_⟩ <;> omega) | (right; refine ⟨?_, ?_⟩ <;> omega))))) ga_nilF) (by first | exact (by first | trivial | (first | omega | (refine ⟨?_, ?_⟩ <;> omega) | (left; refine ⟨?_, ?_⟩ <;> omega) | (right; refine ⟨?_, ?_⟩ <;> omega)) | (dsimp only; first | trivial | (first | omega | (refine ⟨?_, ?_⟩ <;> omega) | (left; refine ⟨?_, ?_⟩ <;> omega) | (right; refine ⟨?_, ?_⟩ <;> omega)))) | (dsimp only [c_law_take]; exact (by first | trivial | (first | omega | (refine ⟨?_, ?_⟩ <;> omega) | (left; refine ⟨?_, ?_⟩ <;> omega) | (right; refine ⟨?_, ?_⟩ <;> omega)) | (dsimp only; first | trivial | (first | omega | (refine ⟨?_, ?_⟩ <;> omega) | (left; refine ⟨?_, ?_⟩ <;> omega) | (right; refine ⟨?_, ?_⟩ <;> omega)))))) (by omega))) (fun _ _ => trivial) gl_nilP)) (fun l h => by rw [h.1]; decide)) (fun x y e1 e2 => by rw [e1, e2.1, n0]; decide)) ga_nil) (fun t h => by obtain ⟨⟨x, y, e1, e2, e3⟩, _⟩ := h; exact ⟨by rw [e3, List.length_append, e1, e2.1, n0]; decide, Nat.le_refl _⟩) (fun _ _ _ _ => trivial) (by omega)) ?_
  rintro low _
  refine gs_ret (ge_tup tr4 (ga_cons (ge_var 1) (ga_cons (ge_var 3) (ga_cons (ge_max2 rfl T.n_max (ge_int) (ge_min2 rfl T.n_min (ge_bpow (ge_int) (ge_int) (by first | trivial | (first | omega | (refine ⟨?_, ?_⟩ <;> omega) | (left; refine ⟨?_, ?_⟩ <;> omega) | (right; refine ⟨?_, ?_⟩ <;> omega)) | (dsimp only; first | trivial | (first | omega | (refine ⟨?_, ?_⟩ <;> omega) | (left; refine ⟨?_, ?_⟩ <;> omega) | (right; refine ⟨?_, ?_⟩ <;> omega))))) (ge_var 6))) (ga_cons (ge_eqP (ge_stF G_law_take hr (by decide) pass0 (ge_var 0) (ga_consF (ge_int) ga_nilF) (by first | exact (by first | trivial | (first | omega | (refine ⟨?_, ?_⟩ <;> omega) | (left; refine ⟨?_, ?_⟩ <;> omega) | (right; refine ⟨?_, ?_⟩ <;> omega)) | (dsimp only; first | trivial | (first | omega | (refine ⟨?_, ?_⟩ <;> omega) | (left; refine ⟨?_, ?_⟩ <;> omega) | (right; refine ⟨?_, ?_⟩ <;> omega)))) | (dsimp only [c_law_take]; exact (by first | trivial | (first | omega | (refine ⟨?_, ?_⟩ <;> omega) | (left; refine ⟨?_, ?_⟩ <;> omega) | (right; refine ⟨?_, ?_⟩ <;> omega)) | (dsimp only; first | trivial | (first | omega | (refine ⟨?_, ?_⟩ <;> omega) | (left; refine ⟨?_, ?_⟩ <;> omega) | (right; refine ⟨?_, ?_⟩ <;> omega)))))) (by omega)) (ge_int)) ga_nil))))) ?_
  rintro a ⟨⟨a1, a2, a3, a4, _⟩, ⟨e1, e2, e3, _⟩, rfl⟩
  dsimp only at e1 e2 e3
  subst e1 e2 e3
  have h6 : (10 : Int) ^ Int.toNat 6 = 1000000 := by decide
  refine ⟨r0, r1, t0, t1, ?_, ?_⟩ <;> dsimp only <;> rw [h6] <;> omega
end
end K29

set_option Elab.async false
set_option linter.all false
set_option maxRecDepth 100000
set_option maxHeartbeats 4000000
namespace K29
open PySem L2 Gm LeastM
section
variable {P : Program} {w : World} {K : PySem.W.Frag} {mg : Str → Option Value} {base : Heap} {ad : Ads}
abbrev s_law_step : Stmt := topS 31
theorem sc_law_step : FnScope ["parts", "sum_here", "rated", "part", "low", "is_plus", "plus_here", "every", "paid_here"] ["parts", "sum_here"] (defScope s_law_step) := ⟨rfl, rfl, rfl, by decide +kernel, rfl, by decide +kernel, by decide +kernel⟩
abbrev c_law_step (ad : Ads) : Ctr (PlanD × Int × Unit) Int := ctrF (aC (jT4 jI jI jI jB) (aC jI aN)) (fun t => PlanOk t.1 ∧ 0 ≤ t.2.1 ∧ t.2.1 ≤ 1000000000000) jI (fun t => nxt t.1 0 t.2.1)
theorem ok_law_step (T : Txt K mg ad)   {f : Addr} {fd : FuncData} (F : Fun K "_law_step" "_law_step" s_law_step f fd) : FnOk P w K mg base CX0 1 f fd ["parts", "sum_here"] (spP (c_law_step ad)) := by
  refine fn_okP F sc_law_step (ae_cons (ae_cons ae_nil)) rfl ?_
  rintro cdv A outer s H E B ⟨parts, sum_here, ⟨⟩⟩ hr hpre
  have nd := sc_law_step.nd
  try dsimp only at hpre
  show GS _ Am.no 0 _ _ [some (.pv (jT4 jI jI jI jB) parts), some (.pv jI sum_here), none, none, none, none, none, none, none] _
  obtain ⟨hP, hb0, hb1⟩ := hpre
  refine gs_asg (js := [2, 3, 4, 5]) (fun z => (gb_tup rfl to4 (gbs_cons (gb_name 2 nd) (gbs_cons (gb_name 3 nd) (gbs_cons (gb_name 4 nd) (gbs_cons (gb_name 5 nd) gbs_nil)))))) (ge_var 0) ?_ (fun z on => (OwnNew.setPv 5 (OwnNew.setPv 4 (OwnNew.setPv 3 (OwnNew.setPv 2 on)))))
  rintro ⟨rated, part, low, is_plus⟩ h_t
  try dsimp only at h_t
  cases h_t
  have hw1 := wanted_nonneg hP hb0
  have hw2 := wanted_le hP hb0
  have hw := wanted.eq_1 (rated, part, low, is_plus) sum_here
  have hn := nxt_eq (rated, part, low, is_plus) 0 sum_here
  obtain ⟨p1, p2, p3, p4, p5, p6⟩ := hP
  dsimp only at p1 p2 p3 p4 p5 p6 hw1 hw2 hw hn
  have hi : 0 ≤ sum_here * rated / 1000 := mul_div_nonneg hb0 p1
  have hi2 : sum_here * rated / 1000 ≤ sum_here := mul_div_le hb0 p2
  refine gs_set 6 nd (ge_bdiv (ge_bmul (ge_var 1) (ge_var 2) (by first | trivial | (first | omega | (refine ⟨?_, ?_⟩ <;> omega) | (left; refine ⟨?_, ?_⟩ <;> omega) | (right; refine ⟨?_, ?_⟩ <;> omega)) | (dsimp only; first | trivial | (first | omega | (refine ⟨?_, ?_⟩ <;> omega) | (left; refine ⟨?_, ?_⟩ <;> omega) | (right; refine ⟨?_, ?_⟩ <;> omega))))) (ge_int) (by first | trivial | (first | omega | (refine ⟨?_, ?_⟩ <;> omega) | (left; refine ⟨?_, ?_⟩ <;> omega) | (right; refine ⟨?_, ?_⟩ <;> omega)) | (dsimp only; first | trivial | (first | omega | (refine ⟨?_, ?_⟩ <;> omega) | (left; refine ⟨?_, ?_⟩ <;> omega) | (right; refine ⟨?_, ?_⟩ <;> omega))))) ?_
  intro plus_here h_plus_here
  try dsimp only at h_plus_here
  refine gs_set 7 nd (ge_badd (ge_var 1) (ge_var 6)) ?_
  intro every h_every
  try dsimp only at h_every
  refine gs_ifF (gt_le (ge_var 7) (ge_var 4)) (fun hc => ?_) (fun hc => ?_)
  · refine gs_retF (ge_int) ?_
    simp only [decide_eq_true_eq] at hc
    show 0 = nxt _ 0 sum_here
    rw [hn, if_pos (by omega)]
  · refine gs_nil ?_
    simp only [decide_eq_false_iff_not] at hc
    refine gs_set 8 nd (ge_ifF (gt_val (ge_var 5)) (fun hk => (ge_badd (ge_var 6) (ge_bdiv (ge_bmul (ge_var 1) (ge_var 3) (by first | trivial | (first | omega | (refine ⟨?_, ?_⟩ <;> omega) | (left; refine ⟨?_, ?_⟩ <;> omega) | (right; refine ⟨?_, ?_⟩ <;> omega)) | (dsimp only; first | trivial | (first | omega | (refine ⟨?_, ?_⟩ <;> omega) | (left; refine ⟨?_, ?_⟩ <;> omega) | (right; refine ⟨?_, ?_⟩ <;> omega))))) (ge_int) (by first | trivial | (first | omega | (refine ⟨?_, ?_⟩ <;> omega) | (left; refine ⟨?_, ?_⟩ <;> omega) | (right; refine ⟨?_, ?_⟩ <;> omega)) | (dsimp only; first | trivial | (first | omega | (refine ⟨?_, ?_⟩ <;> omega) | (left; refine ⟨?_, ?_⟩ <;> omega) | (right; refine ⟨?_, ?_⟩ <;> omega))))))) (fun hk => (ge_bdiv (ge_bmul (ge_var 7) (ge_var 3) (by first | trivial | (first | omega | (refine ⟨?_, ?_⟩ <;> omega) | (left; refine ⟨?_, ?_⟩ <;> omega) | (right; refine ⟨?_, ?_⟩ <;> omega)) | (dsimp only; first | trivial | (first | omega | (refine ⟨?_, ?_⟩ <;> omega) | (left; refine ⟨?_, ?_⟩ <;> omega) | (right; refine ⟨?_, ?_⟩ <;> omega))))) (ge_int) (by first | trivial | (first | omega | (refine ⟨?_, ?_⟩ <;> omega) | (left; refine ⟨?_, ?_⟩ <;> omega) | (right; refine ⟨?_, ?_⟩ <;> omega)) | (dsimp only; first | trivial | (first | omega | (refine ⟨?_, ?_⟩ <;> omega) | (left; refine ⟨?_, ?_⟩ <;> omega) | (right; refine ⟨?_, ?_⟩ <;> omega))))))) ?_
    intro paid_here h_paid_here
    try dsimp only at h_paid_here
    have hp2 : paid_here = wanted (rated, part, low, is_plus) sum_here := by
      rw [h_paid_here, hw, h_every, h_plus_here]
    refine gs_retF (ge_bsub (ge_var 7) (ge_max2 rfl T.n_max (ge_var 4) (ge_var 8))) ?_
    show _ = nxt _ 0 sum_here
    rw [hn, if_neg (by omega), hp2]
    try dsimp only
    omega
abbrev s_law_first : Stmt := topS 32
theorem sc_law_first : FnScope ["parts", "plus_here", "sum_here"] ["parts"] (defScope s_law_first) := ⟨rfl, rfl, rfl, by decide +kernel, rfl, by decide +kernel, by decide +kernel⟩
abbrev c_law_first (ad : Ads) : Ctr (PlanD × Unit) (Option Int) := ctrF (aC (jT4 jI jI jI jB) aN) (fun t => PlanOk t.1) (jO jI) (fun t => firstW t.1)
theorem ceil_big {p : PlanD} (hP : PlanOk p) (h : 1 ≤ p.1) {i : Int} (h0 : 0 ≤ i) (h1 : i ≤ 2000000) : 0 ≤ (1000 * i + p.1 - 1) / p.1 ∧ (1000 * i + p.1 - 1) / p.1 ≤ 1000000000000 := by
  refine ⟨Int.ediv_nonneg (by omega) (by omega), ?_⟩
  have := Int.ediv_le_self (p.1) (show 0 ≤ 1000 * i + p.1 - 1 by omega)
  have := hP.2.1
  omega
theorem scan_none' {p : PlanD} : ∀ (n : Nat) (i : Int), (∀ j, i ≤ j → j < i + n → ¬ (1000 * j + p.1 - 1) / p.1 ≤ nxt p 0 ((1000 * j + p.1 - 1) / p.1)) → scan p n i = none
  | 0, _, _ => rfl
  | n + 1, i, h => by
    unfold scan
    rw [if_neg (h i (Int.le_refl _) (by omega))]
    exact scan_none' n (i + 1) fun j h1 h2 => h j (by omega) (by omega)
theorem scan_some' {p : PlanD} : ∀ (n : Nat) (i k : Int), i ≤ k → k < i + n → (1000 * k + p.1 - 1) / p.1 ≤ nxt p 0 ((1000 * k + p.1 - 1) / p.1) → (∀ j, i ≤ j → j < k → ¬ (1000 * j + p.1 - 1) / p.1 ≤ nxt p 0 ((1000 * j + p.1 - 1) / p.1)) → scan p n i = some ((1000 * k + p.1 - 1) / p.1)
  | 0, i, k, h1, h2, _, _ => by omega
  | n + 1, i, k, h1, h2, hk, h => by
    unfold scan
    by_cases q : i = k
    · subst q; rw [if_pos hk]
    · rw [if_neg (h i (Int.le_refl _) (by omega))]
      exact scan_some' n (i + 1) k (by omega) (by omega) hk fun j h3 h4 => h j (by omega) h4
theorem ok_law_first (T : Txt K mg ad) (G_law_step : FnAt P w K mg base CX0 1 "_law_step" ["parts", "sum_here"] (spP (c_law_step ad)))  {f : Addr} {fd : FuncData} (F : Fun K "_law_first" "_law_first" s_law_first f fd) : FnOk P w K mg base CX0 2 f fd ["parts"] (spP (c_law_first ad)) := by
  refine fn_okP F sc_law_first (ae_cons ae_nil) rfl ?_
  rintro cdv A outer s H E B ⟨parts, ⟨⟩⟩ hr hpre
  have nd := sc_law_first.nd
  try dsimp only at hpre
  show GS _ Am.no 0 _ _ [some (.pv (jT4 jI jI jI jB) parts), none, none] _
  have hP := hpre
  obtain ⟨p1, p2, p3, p4, p5, p6⟩ := hpre
  refine gs_for (js := [1]) 0 PassesOwn.never rfl (gi_range2 T.n_range (ge_pr pr4_2 (ge_var 0)) (ge_badd (ge_pr pr4_2 (ge_var 0)) (ge_pr pr4_0 (ge_var 0))) (fun i j e1 e2 => by rw [e1, e2]; omega)) ?_
  rintro l ⟨i, j, rfl, rfl, rfl⟩
  refine ⟨Option Int × Option Int, fun t => [some (.pv (jT4 jI jI jI jB) parts), none, none], fun x t => [some (.pv (jT4 jI jI jI jB) parts), some (.pv jI x), none], fun pre t => ∀ j ∈ pre, ¬ (1000 * j + parts.1 - 1) / parts.1 ≤ nxt parts 0 ((1000 * j + parts.1 - 1) / parts.1), ⟨(none, none), ⟨.inr rfl, .inr rfl, .inr rfl, trivial⟩, fun _ h => by cases h⟩, fun x t => gb_name 1 nd, fun x t on => OwnNew.setPv 1 on, ?_, ?_⟩
  · intro pre x post t hl iv
    obtain ⟨hx, hlen, hpre⟩ := rng_split hl
    have h1 : 1 ≤ parts.1 := by omega
    have hb := ceil_big hP h1 (i := x) (by omega) (by omega)
    refine gs_set 2 nd (ge_bdiv (ge_bsub (ge_badd (ge_bmul (ge_int) (ge_var 1) (by first | trivial | (first | omega | (refine ⟨?_, ?_⟩ <;> omega) | (left; refine ⟨?_, ?_⟩ <;> omega) | (right; refine ⟨?_, ?_⟩ <;> omega)) | (dsimp only; first | trivial | (first | omega | (refine ⟨?_, ?_⟩ <;> omega) | (left; refine ⟨?_, ?_⟩ <;> omega) | (right; refine ⟨?_, ?_⟩ <;> omega))))) (ge_pr pr4_0 (ge_var 0))) (ge_int)) (ge_pr pr4_0 (ge_var 0)) (by first | trivial | (first | omega | (refine ⟨?_, ?_⟩ <;> omega) | (left; refine ⟨?_, ?_⟩ <;> omega) | (right; refine ⟨?_, ?_⟩ <;> omega)) | (dsimp only; first | trivial | (first | omega | (refine ⟨?_, ?_⟩ <;> omega) | (left; refine ⟨?_, ?_⟩ <;> omega) | (right; refine ⟨?_, ?_⟩ <;> omega))))) ?_
    intro sum_here h_sum_here
    try dsimp only at h_sum_here
    refine gs_ifF (gt_ge (ge_fnF G_law_step hr (by decide) pass0 (ga_consF (ge_var 0) (ga_consF (ge_var 2) ga_nilF)) (by first | exact ⟨hP, by rw [h_sum_here]; exact hb.1, by rw [h_sum_here]; exact hb.2⟩ | (dsimp only [ctrF, c_law_step]; exact ⟨hP, by rw [h_sum_here]; exact hb.1, by rw [h_sum_here]; exact hb.2⟩))) (ge_var 2)) (fun hd => ?_) (fun hd => ?_)
    · simp only [decide_eq_true_eq] at hd
      rw [h_sum_here] at hd
      refine gs_retF (GE.some' (ge_var 2) jI_nn) ?_
      show some sum_here = firstW parts
      unfold firstW
      rw [scan_some' _ _ x (by omega) (by omega) hd (fun j h2 h3 => iv j (by rw [hpre, mem_rng]; omega)), h_sum_here]
    · simp only [decide_eq_false_iff_not] at hd
      rw [h_sum_here] at hd
      refine gs_nil ?_
      refine gs_end (Γ' := [some (.pv (jT4 jI jI jI jB) parts), none, none]) ⟨.inr rfl, .inl rfl, .inl rfl, trivial⟩ ⟨by omega, (none, none), Wk.refl, fun j hj => ?_⟩
      rcases List.mem_append.mp hj with hj | hj
      · exact iv j hj
      · rw [List.mem_singleton] at hj; subst hj; exact hd
  · intro t iv
    refine gs_retF (ge_none) ?_
    show none = firstW parts
    unfold firstW
    exact (scan_none' _ _ fun j h2 h3 => iv j (by rw [mem_rng]; omega)).symm
end
end K29

set_option Elab.async false
set_option linter.all false
set_option maxRecDepth 100000
set_option maxHeartbeats 4000000
namespace K29
open PySem L2 Gm LeastM
section
variable {P : Program} {w : World} {K : PySem.W.Frag} {mg : Str → Option Value} {base : Heap} {ad : Ads}
abbrev s_law_is_never : Stmt := topS 33
theorem sc_law_is_never : FnScope ["parts", "found", "most", "number"] ["parts", "found", "most"] (defScope s_law_is_never) := ⟨rfl, rfl, rfl, by decide +kernel, rfl, by decide +kernel, by decide +kernel⟩
abbrev c_law_is_never (ad : Ads) : Ctr (PlanD × (Str × Int) × Int × Unit) Bool := ctrF (aC (jT4 jI jI jI jB) (aC (jT2 jS jI) (aC jI aN))) (fun t => PlanOk t.1 ∧ t.2.1.1 = "never" ∧ 0 ≤ t.2.1.2 ∧ t.2.1.2 ≤ 1000000) jB (fun t => (decide (1 ≤ t.2.1.2) && decide (t.2.1.2 ≤ t.2.2.1)) && decide (t.2.1.2 ≤ nxt t.1 0 t.2.1.2))
theorem ok_law_is_never (T : Txt K mg ad) (G_law_step : FnAt P w K mg base CX0 1 "_law_step" ["parts", "sum_here"] (spP (c_law_step ad)))  {f : Addr} {fd : FuncData} (F : Fun K "_law_is_never" "_law_is_never" s_law_is_never f fd) : FnOk P w K mg base CX0 2 f fd ["parts", "found", "most"] (spP (c_law_is_never ad)) := by
  refine fn_okP F sc_law_is_never (ae_cons (ae_cons (ae_cons ae_nil))) rfl ?_
  rintro cdv A outer s H E B ⟨parts, found, most, ⟨⟩⟩ hr hpre
  have nd := sc_law_is_never.nd
  try dsimp only at hpre
  show GS _ Am.no 0 _ _ [some (.pv (jT4 jI jI jI jB) parts), some (.pv (jT2 jS jI) found), some (.pv jI most), none] _
  obtain ⟨hP, hs, hb0, hb1⟩ := hpre
  refine gs_skip (GW.gt (gw_orF (gt_notF (gt_val (ge_isi isi_T2_tuple T.n_isinstance (ge_var 1) (pe_cls T.n_tuple (by decide +kernel))))) (fun hk => (gw_orF (gt_ne (ge_lenW lv2 T.n_len (ge_var 1)) (ge_int)) (fun hk => (gw_or1 (gt_neS (ge_pr pr2_0 (ge_var 1)) (ge_str)))))))) (by simp [hs]) ?_
  refine gs_set 3 nd (ge_pr pr2_1 (ge_var 1)) ?_
  intro number h_number
  try dsimp only at h_number
  subst h_number
  refine gs_skip (GW.gt (gw_orF (gt_notF (gt_val (ge_isi isi_I_int T.n_isinstance (ge_var 3) (pe_cls T.n_int (by decide +kernel))))) (fun hk => (gw_or1 (gt_val (ge_isi isi_I_bool T.n_isinstance (ge_var 3) (pe_cls T.n_bool (by decide +kernel)))))))) (by simp) ?_
  refine gs_retF (ge_and (ge_chain op_le op_le (ge_int) (ge_var 3) (ge_var 2)) (fun hk => (ge_one (ge_ge (ge_fnF G_law_step hr (by decide) pass0 (ga_consF (ge_var 0) (ga_consF (ge_var 3) ga_nilF)) (by first | exact ⟨hP, hb0, by omega⟩ | (dsimp only [ctrF, c_law_step]; exact ⟨hP, hb0, by omega⟩))) (ge_var 3))))) ?_
  rfl
theorem never_last {p : PlanD} (hP : PlanOk p) {c b : Int} (hf : firstW p = some c) (hb : c ≤ b) : 0 < lastOf p 0 b := by
  obtain ⟨h1, _, h2, _⟩ := first_least hP hf
  have := last_ge hP h1 h2 b hb
  omega
theorem first_last {p : PlanD} (hP : PlanOk p) {c : Int} (hf : firstW p = some c) : lastOf p 0 c = c := by
  obtain ⟨h1, _, h2, _⟩ := first_least hP hf
  rw [lastOf_eq, if_neg (by omega)]
theorem last_bad {p : PlanD} (hP : PlanOk p) {c b : Int} (hf : firstW p = some c) (hb : c ≤ b) : 1 ≤ lastOf p 0 b ∧ lastOf p 0 b ≤ b ∧ lastOf p 0 b ≤ nxt p 0 (lastOf p 0 b) := by
  obtain ⟨h1, _, h2, _⟩ := first_least hP hf
  have h3 := last_ge hP h1 h2 b hb
  have h4 := last_le p 0 b (by omega)
  have h5 := last_stop p 0 b
  omega
theorem sb_never {i : Int} (h0 : 0 ≤ i) (h1 : i ≤ 1000000) : ShowB (.tuple [.str "never", .int i]) 2000 2 := (sbT (sb_cons (show ShowB (.str "never") 7 1 from ⟨rfl, rfl, by decide, by decide +kernel⟩) (sb_cons (sbJ (by omega) (by omega)) sb_nil))).mono (by decide) (by decide)
abbrev s_law_shown_right : Stmt := topS 34
theorem sc_law_shown_right : FnScope ["state", "parts", "made", "begin", "less", "more"] ["state", "parts", "made", "begin"] (defScope s_law_shown_right) := ⟨rfl, rfl, rfl, by decide +kernel, rfl, by decide +kernel, by decide +kernel⟩
abbrev c_law_shown_right (ad : Ads) : CtrS (PlanD × PlanD × Int × Unit) Bool := ⟨aC (jT4 jI jI jI jB) (aC (jPlan ad) (aC jI aN)), fun t => PlanOk t.1 ∧ t.2.1 = t.1 ∧ firstW t.1 = some t.2.2.1 ∧ t.2.2.1 ≤ 100000, jB, fun _ a => a = true, fun _ => 2⟩
theorem ok_law_shown_right (T : Txt K mg ad) (G_is_evidence : FnAt P w K mg base CX0 4 "is_evidence" ["plan", "balance", "value"] (spP (c_is_evidence ad))) (G_law_take : FnAt P w K mg base CX0 2 "_law_take" ["state", "size"] (spS (c_law_take ad))) (G_ending : FnAt P w K mg base CX0 4 "ending" ["plan", "balance"] (spP (c_ending ad))) (G_law_is_never : FnAt P w K mg base CX0 2 "_law_is_never" ["parts", "found", "most"] (spP (c_law_is_never ad))) (G_month : FnAt P w K mg base CX0 4 "month" ["plan", "balance"] (spP (c_month ad))) (G_evidence_n : FnAt P w K mg base CX0 4 "evidence" ["plan", "balance"] (spP (c_evidence_n ad)))  {f : Addr} {fd : FuncData} (F : Fun K "_law_shown_right" "_law_shown_right" s_law_shown_right f fd) : FnOkG P w K mg base CX0 5 f fd ["state", "parts", "made", "begin"] (spS (c_law_shown_right ad)) := by
  refine fn_okSG F sc_law_shown_right (ae_cons (ae_cons (ae_cons ae_nil))) rfl ?_
  rintro cdv A outer s H E B p_st l_st c_st d0 ⟨parts, made, begin, ⟨⟩⟩ hgd hr hpre hlim
  have nd := sc_law_shown_right.nd
  try dsimp only at hpre
  show GS _ (dm p_st l_st c_st) d0 _ _ [some (.pv jV (.ref p_st)), some (.pv (jT4 jI jI jI jB) parts), some (.pv (jPlan ad) made), some (.pv jI begin), none, none] _
  have hl1 : d0 + 2 ≤ lim := hlim
  obtain ⟨hP, hm, hf, hb⟩ := hpre
  subst hm
  obtain ⟨f1, f2, f3, f4⟩ := first_least hP hf
  refine gs_par 4 5 rfl nd (ga_cons (ge_addP (ge_int) (ge_stF G_law_take hr (by decide) pass0 (ge_var 0) (ga_consF (ge_var 3) ga_nilF) (by first | exact (by dsimp only; omega) | (dsimp only [c_law_take]; exact (by dsimp only; omega))) (by omega))) (ga_cons (ge_min2P rfl T.n_min (ge_bpow (ge_int) (ge_int) (by first | trivial | (first | omega | (refine ⟨?_, ?_⟩ <;> omega) | (left; refine ⟨?_, ?_⟩ <;> omega) | (right; refine ⟨?_, ?_⟩ <;> omega)) | (dsimp only; first | trivial | (first | omega | (refine ⟨?_, ?_⟩ <;> omega) | (left; refine ⟨?_, ?_⟩ <;> omega) | (right; refine ⟨?_, ?_⟩ <;> omega))))) (ge_addP (ge_var 3) (ge_stF G_law_take hr (by decide) pass0 (ge_var 0) (ga_consF (ge_int) ga_nilF) (by first | exact (by first | trivial | (first | omega | (refine ⟨?_, ?_⟩ <;> omega) | (left; refine ⟨?_, ?_⟩ <;> omega) | (right; refine ⟨?_, ?_⟩ <;> omega)) | (dsimp only; first | trivial | (first | omega | (refine ⟨?_, ?_⟩ <;> omega) | (left; refine ⟨?_, ?_⟩ <;> omega) | (right; refine ⟨?_, ?_⟩ <;> omega)))) | (dsimp only [c_law_take]; exact (by first | trivial | (first | omega | (refine ⟨?_, ?_⟩ <;> omega) | (left; refine ⟨?_, ?_⟩ <;> omega) | (right; refine ⟨?_, ?_⟩ <;> omega)) | (dsimp only; first | trivial | (first | omega | (refine ⟨?_, ?_⟩ <;> omega) | (left; refine ⟨?_, ?_⟩ <;> omega) | (right; refine ⟨?_, ?_⟩ <;> omega)))))) (by omega)))) ga_nil)) ?_
  rintro less more ⟨⟨x1, y1, e1, ⟨e2, e3⟩, e4⟩, ⟨x2, y2, e5, ⟨x3, y3, e6, ⟨e7, e8⟩, e9⟩, e10⟩, _⟩
  dsimp only at e1 e3 e4 e5 e6 e8 e9 e10
  have h5 : (10 : Int) ^ Int.toNat 5 = 100000 := by decide
  rw [h5] at e5
  have l1 : 1 ≤ less ∧ less ≤ begin := by omega
  have l2 : begin ≤ more ∧ more ≤ 100000 := by omega
  clear e1 e2 e3 e4 e5 e6 e7 e8 e9 e10
  have nl := last_bad hP hf l2.1
  refine gs_skip (GW.gt (gw_orF (gt_lt (ge_pr pr3_2 (ge_fnF G_month hr (by decide) pass0 (ga_consF (ge_var 2) (ga_consF (ge_var 3) ga_nilF)) (by first | exact ⟨hP, by omega, hb⟩ | (dsimp only [ctrF, c_month]; exact ⟨hP, by omega, hb⟩)))) (ge_var 3)) (fun hk => (gw_orF (gt_notN (ge_fnF G_ending hr (by decide) pass0 (ga_consF (ge_var 2) (ga_consF (ge_var 3) ga_nilF)) (by first | exact ⟨hP, by omega, hb⟩ | (dsimp only [ctrF, c_ending]; exact ⟨hP, by omega, hb⟩)))) (fun hk => (gw_or1 (gt_notN (ge_fnF G_ending hr (by decide) pass0 (ga_consF (ge_var 2) (ga_consF (ge_var 5) ga_nilF)) (by first | exact ⟨hP, by omega, by omega⟩ | (dsimp only [ctrF, c_ending]; exact ⟨hP, by omega, by omega⟩)))))))))) (by have := f3; have := never_last hP hf (Int.le_refl _); have := never_last hP hf l2.1; simp [endingW, nxt] at *; omega) ?_
  have e1 : lastOf made 0 begin = begin := first_last hP hf
  have e2 : (decide (1 ≤ less) && decide (less ≤ more) && decide (less ≤ nxt made 0 less)) = decide (less = begin) := by
    by_cases q : less = begin
    · subst q; simp; omega
    · have := f4 less l1.1 (by omega)
      simp [q]; omega
  refine gs_skip (GW.gt (gw_orF (gt_neS (ge_repr (dT2 dS dI) hgd hr T.n_repr (ge_fnF G_evidence_n hr (by decide) pass0 (ga_consF (ge_var 2) (ga_consF (ge_var 3) ga_nilF)) (by first | exact ⟨hP, by omega, hb, never_last hP hf (Int.le_refl _)⟩ | (dsimp only [ctrF, c_evidence_n]; exact ⟨hP, by omega, hb, never_last hP hf (Int.le_refl _)⟩))) (by dsimp only; rw [e1]; exact (sb_never (by omega) (by omega)).ok)) (ge_repr (dT2 dS dI) hgd hr T.n_repr (ge_tupF tr2 (ga_consF (ge_str) (ga_consF (ge_var 3) ga_nilF))) (by dsimp only; exact (sb_never (by omega) (by omega)).ok))) (fun hk => (gw_or1 (gt_notF (gt_val (ge_fnF G_law_is_never hr (by decide) pass0 (ga_consF (ge_var 1) (ga_consF (ge_fnF G_evidence_n hr (by decide) pass0 (ga_consF (ge_var 2) (ga_consF (ge_var 5) ga_nilF)) (by first | exact ⟨hP, by omega, by omega, never_last hP hf l2.1⟩ | (dsimp only [ctrF, c_evidence_n]; exact ⟨hP, by omega, by omega, never_last hP hf l2.1⟩))) (ga_consF (ge_var 5) ga_nilF))) (by first | exact ⟨hP, rfl, by dsimp only; omega, by dsimp only; omega⟩ | (dsimp only [ctrF, c_law_is_never]; exact ⟨hP, rfl, by dsimp only; omega, by dsimp only; omega⟩))))))))) (by simp [e1]; omega) ?_
  refine gs_skip (gt_neS (ge_repr dB hgd hr T.n_repr (ge_fnF G_is_evidence hr (by decide) pass0 (ga_consF (ge_var 2) (ga_consF (ge_var 5) (ga_consF (ge_tupF tr2 (ga_consF (ge_str) (ga_consF (ge_var 4) ga_nilF))) ga_nilF))) (by first | exact ⟨hP, by omega, by omega, rfl⟩ | (dsimp only [ctrF, c_is_evidence]; exact ⟨hP, by omega, by omega, rfl⟩))) sbB.ok) (ge_repr dB hgd hr T.n_repr (ge_eq (ge_var 4) (ge_var 3)) sbB.ok)) (by simp [e2]) ?_
  refine gs_retF (ge_isB (ge_fnF G_is_evidence hr (by decide) pass0 (ga_consF (ge_var 2) (ga_consF (ge_var 5) (ga_consF (ge_tupF tr2 (ga_consF (ge_str) (ga_consF (ge_var 3) ga_nilF))) ga_nilF))) (by first | exact ⟨hP, by omega, by omega, rfl⟩ | (dsimp only [ctrF, c_is_evidence]; exact ⟨hP, by omega, by omega, rfl⟩))) (ge_bool)) ?_
  show _ = true
  simp
  omega
end
end K29

set_option Elab.async false
set_option linter.all false
set_option maxRecDepth 100000
set_option maxHeartbeats 4000000
namespace K29
open PySem L2 Gm LeastM
section
variable {P : Program} {w : World} {K : PySem.W.Frag} {mg : Str → Option Value} {base : Heap} {ad : Ads}
abbrev s_law : Stmt := topS 35
theorem sc_law : FnScope ["script", "state", "turn", "parts", "made", "begin", "left", "row"] ["script"] (defScope s_law) := ⟨rfl, rfl, rfl, by decide +kernel, rfl, by decide +kernel, by decide +kernel⟩
theorem fine_last {p : PlanD} (hP : PlanOk p) {b : Int} (hb : 0 ≤ b) (h : ∀ c, firstW p = some c → b < c) : lastOf p 0 b = 0 := by
  refine last_zero b hb fun c h1 h2 => ?_
  cases hf : firstW p with
  | none => exact first_no hP hf c h1
  | some g =>
    have := h g hf
    exact (first_least hP hf).2.2.2 c h1 (by omega)
theorem sb_pair {o : Option Int} (h : ∀ i, o = some i → -1000000000000000000 ≤ i ∧ i ≤ 1000000000000000000) : ShowB (.list [dOf PyData.int o, dOf PyData.int o]) 5000 2 := by
  have h1 : ShowB (dOf PyData.int o) 1921 1 := sbO (fun i e => sbJ (h i e).1 (h i e).2) (by decide) (by decide)
  exact (sbL (sb_cons h1 (sb_cons h1 sb_nil))).mono (by decide) (by decide)
theorem ok_law (T : Txt K mg ad) (G_begun : FnAt P w K mg base CX0 1 "_law_begun" ["script"] (spBegun K)) (G_law_parts : FnAt P w K mg base CX0 4 "_law_parts" ["state"] (spS (c_law_parts ad))) (N_Plan : NewAt P w K mg base CX0 3 "Plan" ad.Plan ["self", "rate", "share", "least", "plus"] (spI ad.Plan (c_Plan___init__ ad)))
    (G_law_first : FnAt P w K mg base CX0 2 "_law_first" ["parts"] (spP (c_law_first ad))) (G_least_endless : FnAt P w K mg base CX0 4 "least_endless" ["plan"] (spP (c_least_endless ad))) (Kw_least_endless : FnKw P w K mg base CX0 4 "least_endless" "plan" (spP (c_least_endless ad)))
    (G_law_take : FnAt P w K mg base CX0 2 "_law_take" ["state", "size"] (spS (c_law_take ad))) (G_evidence_e : FnAt P w K mg base CX0 4 "evidence" ["plan", "balance"] (spP (c_evidence_e ad))) (G_ending : FnAt P w K mg base CX0 4 "ending" ["plan", "balance"] (spP (c_ending ad)))
    (G_law_shown_right : FnAtG P w K mg base CX0 5 "_law_shown_right" ["state", "parts", "made", "begin"] (spS (c_law_shown_right ad))) {f : Addr} {fd : FuncData} (F : Fun K "law" "law" s_law f fd) : FnOkG P w K mg base CX0 6 f fd ["script"] (spLaw K) := by
  refine fn_law F sc_law rfl G_begun (by decide) rfl rfl (by decide) (fun _ _ _ _ _ _ => ⟨rfl, .inl rfl, .inl rfl, .inr rfl⟩) ?_
  intro cdv A outer s H E B p_st l_st c_st ns hgd hr hns
  have nd := sc_law.nd
  show GS _ (dm p_st l_st c_st) 0 _ _ [some (.pv (jSq K) ns), some (.pv jV (.ref p_st)), none, none, none, none, none, none] _
  have hlm : lim = 1099511627776 := rfl
  refine gs_for (js := [2]) 14 PassesOwn.never rfl (gi_range1 T.n_range (ge_badd (ge_int) (ge_min2 rfl T.n_min (ge_lenSq T.n_len (ge_var 0)) (ge_int))) (fun n e => by rw [e]; omega)) ?_
  rintro l ⟨n, e, rfl⟩
  have hlen : (rng 0 n.toNat).length ≤ 12 := by rw [rng_len, e]; omega
  refine ⟨Unit, fun _ => [some (.pv (jSq K) ns), some (.pv jV (.ref p_st)), none, none, none, none, none, none], fun x _ => [some (.pv (jSq K) ns), some (.pv jV (.ref p_st)), some (.pv jI x), none, none, none, none, none], fun _ _ => True, ⟨(), ⟨.inr rfl, .inr rfl, .inr rfl, .inr rfl, .inr rfl, .inr rfl, .inr rfl, .inr rfl, trivial⟩, trivial⟩, fun x t => gb_name 2 nd, fun x t on => OwnNew.setPv 2 on, ?_, ?_⟩
  · intro pre x post _ hl _
    have hpl : pre.length < 12 := by
      have := congrArg List.length hl
      rw [List.length_append, List.length_cons] at this
      omega
    refine gs_set 3 nd (ge_stF G_law_parts hr (by decide) pass0 (ge_var 1) ga_nilF (by first | exact (by first | trivial | (first | omega | (refine ⟨?_, ?_⟩ <;> omega) | (left; refine ⟨?_, ?_⟩ <;> omega) | (right; refine ⟨?_, ?_⟩ <;> omega)) | (dsimp only; first | trivial | (first | omega | (refine ⟨?_, ?_⟩ <;> omega) | (left; refine ⟨?_, ?_⟩ <;> omega) | (right; refine ⟨?_, ?_⟩ <;> omega)))) | (dsimp only [c_law_parts]; exact (by first | trivial | (first | omega | (refine ⟨?_, ?_⟩ <;> omega) | (left; refine ⟨?_, ?_⟩ <;> omega) | (right; refine ⟨?_, ?_⟩ <;> omega)) | (dsimp only; first | trivial | (first | omega | (refine ⟨?_, ?_⟩ <;> omega) | (left; refine ⟨?_, ?_⟩ <;> omega) | (right; refine ⟨?_, ?_⟩ <;> omega)))))) (by omega)) ?_
    intro parts hP
    have hP : PlanOk parts := hP
    refine gs_par 4 5 rfl nd (ga_cons (ge_new N_Plan (mk_Plan T) hr (by decide) pass0 (ga_consF (ge_pr pr4_0 (ge_var 3)) (ga_consF (ge_pr pr4_1 (ge_var 3)) (ga_consF (ge_pr pr4_2 (ge_var 3)) (ga_consF (ge_pr pr4_3 (ge_var 3)) ga_nilF)))) (by first | exact hP | (dsimp only [c_Plan___init__]; exact hP))) (ga_cons (ge_fnF G_law_first hr (by decide) pass0 (ga_consF (ge_var 3) ga_nilF) (by first | exact hP | (dsimp only [ctrF, c_law_first]; exact hP))) ga_nil)) ?_
    rintro made begin ⟨e1, e2, _⟩
    have e1 : made = parts := e1
    have e2 : begin = firstW parts := e2
    subst e1
    have hbig : ∀ i, firstW made = some i → -1000000000000000000 ≤ i ∧ i ≤ 1000000000000000000 := fun i hi => by have := first_least hP hi; omega
    refine gs_skip (gt_neS (ge_repr (dL (dO dI)) hgd hr T.n_repr (ge_lst (gl_consF (ge_fnF G_least_endless hr (by decide) pass0 (ga_consF (ge_var 4) ga_nilF) (by first | exact hP | (dsimp only [ctrF, c_least_endless]; exact hP))) (gl_consF (ge_fnKw (c := fun _ => True) Kw_least_endless hr (by decide) pass0 (ge_var 4) (by first | exact hP | (dsimp only [ctrF, c_least_endless]; exact hP))) gl_nil)) (by intro l e; subst e; exact (Nat.le_of_ble_eq_true rfl))) (by dsimp only; exact (sb_pair hbig).ok)) (ge_repr (dL (dO dI)) hgd hr T.n_repr (ge_lst (gl_consF (ge_var 5) (gl_consF (ge_var 5) gl_nil)) (by intro l e; subst e; exact (Nat.le_of_ble_eq_true rfl))) (by subst e2; exact (sb_pair hbig).ok))) (by simp [e2]) ?_
    subst e2
    cases hf : firstW made with
    | none =>
      refine gs_set 6 nd (ge_stF G_law_take hr (by decide) pass0 (ge_var 1) (ga_consF (ge_ifT (gt_isN (ge_var 5)) rfl (ge_int)) ga_nilF) (by dsimp only; omega) (by omega)) ?_
      rintro left ⟨q1, q2⟩
      dsimp only at q2
      have hl0 : lastOf made 0 left = 0 := fine_last hP q1 fun c hc => by rw [hf] at hc; cases hc
      refine gs_set 7 nd (ge_fnF G_evidence_e hr (by decide) pass0 (ga_consF (ge_var 4) (ga_consF (ge_var 6) ga_nilF)) (by first | exact ⟨hP, by omega, by omega, by rw [hl0]; exact Int.le_refl _⟩ | (dsimp only [ctrF, c_evidence_e]; exact ⟨hP, by omega, by omega, by rw [hl0]; exact Int.le_refl _⟩))) ?_
      intro row h_row
      try dsimp only at h_row
      have hrow : row.1 = "ends" := by rw [h_row]
      refine gs_skip (GW.gt (gw_orF (gt_isN (ge_fnF G_ending hr (by decide) pass0 (ga_consF (ge_var 4) (ga_consF (ge_var 6) ga_nilF)) (by first | exact ⟨hP, by omega, by omega⟩ | (dsimp only [ctrF, c_ending]; exact ⟨hP, by omega, by omega⟩)))) (fun hk => (gw_orF (gt_notF (gt_val (ge_isi isi_T2_tuple T.n_isinstance (ge_var 7) (pe_cls T.n_tuple (by decide +kernel))))) (fun hk => (gw_or1 (gt_neS (ge_pr pr2_0 (ge_var 7)) (ge_str)))))))) (by simp [endingW, hl0, hrow]) ?_
      refine gs_skip (GW.gt (gw_andF (y := false) (d2 := 0 + 14 * pre.length + 14) (gt_notN (ge_var 5)) (fun hk => absurd hk (by decide)) (by omega))) rfl ?_
      refine gs_end (Γ' := [some (.pv (jSq K) ns), some (.pv jV (.ref p_st)), none, none, none, none, none, none]) ⟨.inr rfl, .inr rfl, .inl rfl, .inl rfl, .inl rfl, .inl rfl, .inl rfl, .inl rfl, trivial⟩ ⟨by omega, (), Wk.refl, trivial⟩
    | some c =>
      have hc := first_least hP hf
      refine gs_set 6 nd (ge_stF G_law_take hr (by decide) pass0 (ge_var 1) (ga_consF (ge_ifN (gt_isN (ge_var 5)) rfl (ge_min2 rfl T.n_min (ge_int) (GE.unopt (ge_var 5)))) ga_nilF) (by dsimp only; omega) (by omega)) ?_
      rintro left ⟨q1, q2⟩
      dsimp only at q2
      have hl0 : lastOf made 0 left = 0 := fine_last hP q1 fun c' hc' => by rw [hf] at hc'; cases hc'; omega
      refine gs_set 7 nd (ge_fnF G_evidence_e hr (by decide) pass0 (ga_consF (ge_var 4) (ga_consF (ge_var 6) ga_nilF)) (by first | exact ⟨hP, by omega, by omega, by rw [hl0]; exact Int.le_refl _⟩ | (dsimp only [ctrF, c_evidence_e]; exact ⟨hP, by omega, by omega, by rw [hl0]; exact Int.le_refl _⟩))) ?_
      intro row h_row
      have hrow : row.1 = "ends" := by rw [h_row]
      refine gs_skip (GW.gt (gw_orF (gt_isN (ge_fnF G_ending hr (by decide) pass0 (ga_consF (ge_var 4) (ga_consF (ge_var 6) ga_nilF)) (by first | exact ⟨hP, by omega, by omega⟩ | (dsimp only [ctrF, c_ending]; exact ⟨hP, by omega, by omega⟩)))) (fun hk => (gw_orF (gt_notF (gt_val (ge_isi isi_T2_tuple T.n_isinstance (ge_var 7) (pe_cls T.n_tuple (by decide +kernel))))) (fun hk => (gw_or1 (gt_neS (ge_pr pr2_0 (ge_var 7)) (ge_str)))))))) (by simp [endingW, hl0, hrow]) ?_
      refine gs_skip (x := false) (d1 := 0 + 14 * pre.length + 11 + 1 + 2) ?_ rfl ?_
      · refine (GW.gt (gw_andF (x := (Option.some c).isSome) (y := decide (c ≤ 10 ^ Int.toNat 5) && false) (gt_notN (ge_var 5)) (fun _ => ?_) (by omega))).imp (by simp)
        refine gw_andF (d2 := 0 + 14 * pre.length + 11 + 1 + 2) (gt_le (GE.unopt (ge_var 5)) (ge_bpow (ge_int) (ge_int) (by first | trivial | (first | omega | (refine ⟨?_, ?_⟩ <;> omega) | (left; refine ⟨?_, ?_⟩ <;> omega) | (right; refine ⟨?_, ?_⟩ <;> omega)) | (dsimp only; first | trivial | (first | omega | (refine ⟨?_, ?_⟩ <;> omega) | (left; refine ⟨?_, ?_⟩ <;> omega) | (right; refine ⟨?_, ?_⟩ <;> omega)))))) (fun hk => ?_) (by omega)
        refine gw_and1 (gt_notF (x := true) (gt_val ?_))
        exact ge_stGP G_law_shown_right hgd hr (by decide) pass0 2 (ge_var 1) (ga_consF (ge_var 3) (ga_consF (ge_var 4) (ga_consF (GE.unopt (ge_var 5)) ga_nilF))) (fun t e => by rw [show t = _ from e]; exact ⟨⟨hP, rfl, hf, by simpa using hk⟩, Nat.le_refl _⟩) (fun t a _ h => h) (by omega)
      refine gs_end (Γ' := [some (.pv (jSq K) ns), some (.pv jV (.ref p_st)), none, none, none, none, none, none]) ⟨.inr rfl, .inr rfl, .inl rfl, .inl rfl, .inl rfl, .inl rfl, .inl rfl, .inl rfl, trivial⟩ ⟨by omega, (), Wk.refl, trivial⟩
  · intro t _
    refine gs_ret (ge_bool) (fun a h => h) (by omega)
end
end K29

set_option Elab.async false
set_option linter.all false
set_option maxRecDepth 100000
set_option maxHeartbeats 4000000
namespace K29
open PySem L2 Gm LeastM
section
variable {P : Program} {w : World} {K : PySem.W.Frag} {mg : Str → Option Value} {base : Heap} {ad : Ads}
theorem kbn_one {x qual y : Str} {st : Stmt} {f : Addr} {fd : FuncData} (F : Fun K x qual st f fd) (h : ∀ (kV doc pm : Value) (an : Option Addr) (cdv ct u : Value), bindArgs (PySem.W.fnOf x qual (defArgs st) (defBody st) (defScope st) .none kV doc pm an cdv ct) ⟨[], [(y, u)]⟩ = pure [(y, u)]) : KBn K fd [y] 0 [y] (fun _ ws => ws) (fun _ zs => zs) := by
  obtain ⟨oc, od, kV, doc, pm, an, cdv, ct, osl, rfl, lk, hcd⟩ := F.ex
  refine ⟨fun s us ws X l1 l2 => ?_, fun _ r => r⟩
  match us, l1, ws, l2 with
  | [], _, [u], _ => exact .of_eq (h kV doc pm an cdv ct u)
theorem all_mk {l : PySem.W.OpenLaw} {w : World} {K : PySem.W.Frag} {h : Heap} {mg : Str → Option Value} {fa : Addr}
    {C_Plan : Addr}
    {u_THOUSAND : Tok}
    {u_MOST_LEAST : Tok}
    {u_MOST_BALANCE : Tok}
    {u_ENDS : Tok}
    {u_NEVER : Tok}
    {f_law_mixed : Addr} {od_law_mixed an_law_mixed : Option Addr} {sl_law_mixed : Array (Option Value)} {oc_law_mixed kV_law_mixed dc_law_mixed pm_law_mixed cd_law_mixed ct_law_mixed : Value}
    {f_law_take : Addr} {od_law_take an_law_take : Option Addr} {sl_law_take : Array (Option Value)} {oc_law_take kV_law_take dc_law_take pm_law_take cd_law_take ct_law_take : Value}
    {f_law_begun : Addr} {od_law_begun an_law_begun : Option Addr} {sl_law_begun : Array (Option Value)} {oc_law_begun kV_law_begun dc_law_begun pm_law_begun cd_law_begun ct_law_begun : Value}
    {f_is_number : Addr} {od_is_number an_is_number : Option Addr} {sl_is_number : Array (Option Value)} {oc_is_number kV_is_number dc_is_number pm_is_number cd_is_number ct_is_number : Value}
    {f_is_number_in : Addr} {od_is_number_in an_is_number_in : Option Addr} {sl_is_number_in : Array (Option Value)} {oc_is_number_in kV_is_number_in dc_is_number_in pm_is_number_in cd_is_number_in ct_is_number_in : Value}
    {f_need_plan : Addr} {od_need_plan an_need_plan : Option Addr} {sl_need_plan : Array (Option Value)} {oc_need_plan kV_need_plan dc_need_plan pm_need_plan cd_need_plan ct_need_plan : Value}
    {f_need_balance : Addr} {od_need_balance an_need_balance : Option Addr} {sl_need_balance : Array (Option Value)} {oc_need_balance kV_need_balance dc_need_balance pm_need_balance cd_need_balance ct_need_balance : Value}
    {f_month_with : Addr} {od_month_with an_month_with : Option Addr} {sl_month_with : Array (Option Value)} {oc_month_with kV_month_with dc_month_with pm_month_with cd_month_with ct_month_with : Value}
    {f_month : Addr} {od_month an_month : Option Addr} {sl_month : Array (Option Value)} {oc_month kV_month dc_month pm_month cd_month ct_month : Value}
    {f_row_with : Addr} {od_row_with an_row_with : Option Addr} {sl_row_with : Array (Option Value)} {oc_row_with kV_row_with dc_row_with pm_row_with cd_row_with ct_row_with : Value}
    {f_ending : Addr} {od_ending an_ending : Option Addr} {sl_ending : Array (Option Value)} {oc_ending kV_ending dc_ending pm_ending cd_ending ct_ending : Value}
    {f_Plan___init__ : Addr} {od_Plan___init__ an_Plan___init__ : Option Addr} {sl_Plan___init__ : Array (Option Value)} {oc_Plan___init__ kV_Plan___init__ dc_Plan___init__ pm_Plan___init__ cd_Plan___init__ ct_Plan___init__ : Value}
    {T_Plan___init__ : Addr} {tc_Plan___init__ : Value} {td_Plan___init__ : Option Addr} {tn_Plan___init__ : Nat} {ts_Plan___init__ : Array (Option Value)}
    {f_Plan_rate : Addr} {od_Plan_rate an_Plan_rate : Option Addr} {sl_Plan_rate : Array (Option Value)} {oc_Plan_rate kV_Plan_rate dc_Plan_rate pm_Plan_rate cd_Plan_rate ct_Plan_rate : Value}
    {p_Plan_rate : Addr} {re_Plan_rate : List Value}
    {f_evidence : Addr} {od_evidence an_evidence : Option Addr} {sl_evidence : Array (Option Value)} {oc_evidence kV_evidence dc_evidence pm_evidence cd_evidence ct_evidence : Value}
    {f_is_evidence : Addr} {od_is_evidence an_is_evidence : Option Addr} {sl_is_evidence : Array (Option Value)} {oc_is_evidence kV_is_evidence dc_is_evidence pm_is_evidence cd_is_evidence ct_is_evidence : Value}
    {f_first_with : Addr} {od_first_with an_first_with : Option Addr} {sl_first_with : Array (Option Value)} {oc_first_with kV_first_with dc_first_with pm_first_with cd_first_with ct_first_with : Value}
    {f_least_endless : Addr} {od_least_endless an_least_endless : Option Addr} {sl_least_endless : Array (Option Value)} {oc_least_endless kV_least_endless dc_least_endless pm_least_endless cd_least_endless ct_least_endless : Value}
    {f_law_pick : Addr} {od_law_pick an_law_pick : Option Addr} {sl_law_pick : Array (Option Value)} {oc_law_pick kV_law_pick dc_law_pick pm_law_pick cd_law_pick ct_law_pick : Value}
    {f_law_parts : Addr} {od_law_parts an_law_parts : Option Addr} {sl_law_parts : Array (Option Value)} {oc_law_parts kV_law_parts dc_law_parts pm_law_parts cd_law_parts ct_law_parts : Value}
    {f_law_step : Addr} {od_law_step an_law_step : Option Addr} {sl_law_step : Array (Option Value)} {oc_law_step kV_law_step dc_law_step pm_law_step cd_law_step ct_law_step : Value}
    {f_law_first : Addr} {od_law_first an_law_first : Option Addr} {sl_law_first : Array (Option Value)} {oc_law_first kV_law_first dc_law_first pm_law_first cd_law_first ct_law_first : Value}
    {f_law_is_never : Addr} {od_law_is_never an_law_is_never : Option Addr} {sl_law_is_never : Array (Option Value)} {oc_law_is_never kV_law_is_never dc_law_is_never pm_law_is_never cd_law_is_never ct_law_is_never : Value}
    {f_law_shown_right : Addr} {od_law_shown_right an_law_shown_right : Option Addr} {sl_law_shown_right : Array (Option Value)} {oc_law_shown_right kV_law_shown_right dc_law_shown_right pm_law_shown_right cd_law_shown_right ct_law_shown_right : Value}
    {f_law : Addr} {od_law an_law : Option Addr} {sl_law : Array (Option Value)} {oc_law kV_law dc_law pm_law cd_law ct_law : Value}
    (X : K.In h) (G : h.Ns mainGlobals mg) (hfa : mg "law" = some (.ref fa))
    (z_int : PySem.W.nsIn K mainGlobals "int" = some none)
    (z_bool : PySem.W.nsIn K mainGlobals "bool" = some none)
    (z_str : PySem.W.nsIn K mainGlobals "str" = some none)
    (z_tuple : PySem.W.nsIn K mainGlobals "tuple" = some none)
    (z_isinstance : PySem.W.nsIn K mainGlobals "isinstance" = some none)
    (z_min : PySem.W.nsIn K mainGlobals "min" = some none)
    (z_max : PySem.W.nsIn K mainGlobals "max" = some none)
    (z_len : PySem.W.nsIn K mainGlobals "len" = some none)
    (z_sum : PySem.W.nsIn K mainGlobals "sum" = some none)
    (z_all : PySem.W.nsIn K mainGlobals "all" = some none)
    (z_list : PySem.W.nsIn K mainGlobals "list" = some none)
    (z_range : PySem.W.nsIn K mainGlobals "range" = some none)
    (z_repr : PySem.W.nsIn K mainGlobals "repr" = some none)
    (ax_THOUSAND : PySem.W.nsIn K mainGlobals "THOUSAND" = some (some (.int 1000 u_THOUSAND)))
    (ax_MOST_LEAST : PySem.W.nsIn K mainGlobals "MOST_LEAST" = some (some (.int 1000000 u_MOST_LEAST)))
    (ax_MOST_BALANCE : PySem.W.nsIn K mainGlobals "MOST_BALANCE" = some (some (.int 100000 u_MOST_BALANCE)))
    (ax_ENDS : PySem.W.nsIn K mainGlobals "ENDS" = some (some (.str "ends" u_ENDS)))
    (ax_NEVER : PySem.W.nsIn K mainGlobals "NEVER" = some (some (.str "never" u_NEVER)))
    (ag_Plan : PySem.W.nsIn K mainGlobals "Plan" = some (some (.ref C_Plan)))
    (pg_Plan : PySem.W.plainGet K C_Plan Str.empty = true)
    (hd_Plan : PySem.W.hasDictIn K C_Plan = true)
    (po_Plan : PySem.W.plainOver K C_Plan = true)
    (sa_Plan : PySem.W.findIn K (.ref C_Plan) "__setattr__" = some (some (.builtin "object.__setattr__")))
    (na_Plan_l_parts : PySem.W.findIn K (.ref C_Plan) "l_parts" = some none)
    (fx_isi1 : PySem.W.findIn K (.ref C_Plan) "__class__" = some (some (.builtin "object.__class__")))
    (fx_isi2 : PySem.W.specialIn K (.builtin "object.__class__") "__get__" = some (some (.builtin "getset_descriptor.__get__")))
    (fx_isi3 : PySem.W.takesIn K (.builtin "object.__class__") = some true)
    (fx_isi4 : PySem.W.mroIn K C_Plan (.type "object") = some true)
    (a_law_mixed : PySem.W.nsIn K mainGlobals "_law_mixed" = some (some (.ref f_law_mixed)))
    (l_law_mixed : K.lookup f_law_mixed = some ⟨oc_law_mixed, od_law_mixed, .func (PySem.W.fnOf "_law_mixed" "_law_mixed" (defArgs s_law_mixed) (defBody s_law_mixed) (defScope s_law_mixed) .none kV_law_mixed dc_law_mixed pm_law_mixed an_law_mixed cd_law_mixed ct_law_mixed), sl_law_mixed⟩)
    (c_law_mixed : PySem.W.codeIn K cd_law_mixed "_law_mixed" = true)
    (k_law_mixed : PySem.W.keepIn K (.ref f_law_mixed) = true)
    (a_law_take : PySem.W.nsIn K mainGlobals "_law_take" = some (some (.ref f_law_take)))
    (l_law_take : K.lookup f_law_take = some ⟨oc_law_take, od_law_take, .func (PySem.W.fnOf "_law_take" "_law_take" (defArgs s_law_take) (defBody s_law_take) (defScope s_law_take) .none kV_law_take dc_law_take pm_law_take an_law_take cd_law_take ct_law_take), sl_law_take⟩)
    (c_law_take : PySem.W.codeIn K cd_law_take "_law_take" = true)
    (k_law_take : PySem.W.keepIn K (.ref f_law_take) = true)
    (a_law_begun : PySem.W.nsIn K mainGlobals "_law_begun" = some (some (.ref f_law_begun)))
    (l_law_begun : K.lookup f_law_begun = some ⟨oc_law_begun, od_law_begun, .func (PySem.W.fnOf "_law_begun" "_law_begun" (defArgs s_law_begun) (defBody s_law_begun) (defScope s_law_begun) .none kV_law_begun dc_law_begun pm_law_begun an_law_begun cd_law_begun ct_law_begun), sl_law_begun⟩)
    (c_law_begun : PySem.W.codeIn K cd_law_begun "_law_begun" = true)
    (k_law_begun : PySem.W.keepIn K (.ref f_law_begun) = true)
    (a_is_number : PySem.W.nsIn K mainGlobals "is_number" = some (some (.ref f_is_number)))
    (l_is_number : K.lookup f_is_number = some ⟨oc_is_number, od_is_number, .func (PySem.W.fnOf "is_number" "is_number" (defArgs s_is_number) (defBody s_is_number) (defScope s_is_number) .none kV_is_number dc_is_number pm_is_number an_is_number cd_is_number ct_is_number), sl_is_number⟩)
    (c_is_number : PySem.W.codeIn K cd_is_number "is_number" = true)
    (k_is_number : PySem.W.keepIn K (.ref f_is_number) = true)
    (a_is_number_in : PySem.W.nsIn K mainGlobals "is_number_in" = some (some (.ref f_is_number_in)))
    (l_is_number_in : K.lookup f_is_number_in = some ⟨oc_is_number_in, od_is_number_in, .func (PySem.W.fnOf "is_number_in" "is_number_in" (defArgs s_is_number_in) (defBody s_is_number_in) (defScope s_is_number_in) .none kV_is_number_in dc_is_number_in pm_is_number_in an_is_number_in cd_is_number_in ct_is_number_in), sl_is_number_in⟩)
    (c_is_number_in : PySem.W.codeIn K cd_is_number_in "is_number_in" = true)
    (k_is_number_in : PySem.W.keepIn K (.ref f_is_number_in) = true)
    (a_need_plan : PySem.W.nsIn K mainGlobals "need_plan" = some (some (.ref f_need_plan)))
    (l_need_plan : K.lookup f_need_plan = some ⟨oc_need_plan, od_need_plan, .func (PySem.W.fnOf "need_plan" "need_plan" (defArgs s_need_plan) (defBody s_need_plan) (defScope s_need_plan) .none kV_need_plan dc_need_plan pm_need_plan an_need_plan cd_need_plan ct_need_plan), sl_need_plan⟩)
    (c_need_plan : PySem.W.codeIn K cd_need_plan "need_plan" = true)
    (k_need_plan : PySem.W.keepIn K (.ref f_need_plan) = true)
    (a_need_balance : PySem.W.nsIn K mainGlobals "need_balance" = some (some (.ref f_need_balance)))
    (l_need_balance : K.lookup f_need_balance = some ⟨oc_need_balance, od_need_balance, .func (PySem.W.fnOf "need_balance" "need_balance" (defArgs s_need_balance) (defBody s_need_balance) (defScope s_need_balance) .none kV_need_balance dc_need_balance pm_need_balance an_need_balance cd_need_balance ct_need_balance), sl_need_balance⟩)
    (c_need_balance : PySem.W.codeIn K cd_need_balance "need_balance" = true)
    (k_need_balance : PySem.W.keepIn K (.ref f_need_balance) = true)
    (a_month_with : PySem.W.nsIn K mainGlobals "month_with" = some (some (.ref f_month_with)))
    (l_month_with : K.lookup f_month_with = some ⟨oc_month_with, od_month_with, .func (PySem.W.fnOf "month_with" "month_with" (defArgs s_month_with) (defBody s_month_with) (defScope s_month_with) .none kV_month_with dc_month_with pm_month_with an_month_with cd_month_with ct_month_with), sl_month_with⟩)
    (c_month_with : PySem.W.codeIn K cd_month_with "month_with" = true)
    (k_month_with : PySem.W.keepIn K (.ref f_month_with) = true)
    (a_month : PySem.W.nsIn K mainGlobals "month" = some (some (.ref f_month)))
    (l_month : K.lookup f_month = some ⟨oc_month, od_month, .func (PySem.W.fnOf "month" "month" (defArgs s_month) (defBody s_month) (defScope s_month) .none kV_month dc_month pm_month an_month cd_month ct_month), sl_month⟩)
    (c_month : PySem.W.codeIn K cd_month "month" = true)
    (k_month : PySem.W.keepIn K (.ref f_month) = true)
    (a_row_with : PySem.W.nsIn K mainGlobals "row_with" = some (some (.ref f_row_with)))
    (l_row_with : K.lookup f_row_with = some ⟨oc_row_with, od_row_with, .func (PySem.W.fnOf "row_with" "row_with" (defArgs s_row_with) (defBody s_row_with) (defScope s_row_with) .none kV_row_with dc_row_with pm_row_with an_row_with cd_row_with ct_row_with), sl_row_with⟩)
    (c_row_with : PySem.W.codeIn K cd_row_with "row_with" = true)
    (k_row_with : PySem.W.keepIn K (.ref f_row_with) = true)
    (a_ending : PySem.W.nsIn K mainGlobals "ending" = some (some (.ref f_ending)))
    (l_ending : K.lookup f_ending = some ⟨oc_ending, od_ending, .func (PySem.W.fnOf "ending" "ending" (defArgs s_ending) (defBody s_ending) (defScope s_ending) .none kV_ending dc_ending pm_ending an_ending cd_ending ct_ending), sl_ending⟩)
    (c_ending : PySem.W.codeIn K cd_ending "ending" = true)
    (k_ending : PySem.W.keepIn K (.ref f_ending) = true)
    (a_Plan___init__ : PySem.W.findIn K (.ref C_Plan) "__init__" = some (some (.ref f_Plan___init__)))
    (i_Plan___init__ : PySem.W.isFn K (.ref f_Plan___init__) = true)
    (mk_Plan : PySem.W.makesIn K C_Plan = true)
    (kc_Plan : PySem.W.keepIn K (.ref C_Plan) = true)
    (l_Plan___init__ : K.lookup f_Plan___init__ = some ⟨oc_Plan___init__, od_Plan___init__, .func (PySem.W.fnOf "__init__" "Plan.__init__" (defArgs s_Plan___init__) (defBody s_Plan___init__) (defScope s_Plan___init__) (.ref T_Plan___init__) kV_Plan___init__ dc_Plan___init__ pm_Plan___init__ an_Plan___init__ cd_Plan___init__ ct_Plan___init__), sl_Plan___init__⟩)
    (t_Plan___init__ : K.lookup T_Plan___init__ = some ⟨tc_Plan___init__, td_Plan___init__, .seq #[.bool false] tn_Plan___init__, ts_Plan___init__⟩)
    (c_Plan___init__ : PySem.W.codeIn K cd_Plan___init__ "Plan.__init__" = true)
    (k_Plan___init__ : PySem.W.keepIn K (.ref f_Plan___init__) = true)
    (pa_Plan_rate : PySem.W.findIn K (.ref C_Plan) "rate" = some (some (.ref p_Plan_rate)))
    (pb_Plan_rate : PySem.W.specialIn K (.ref p_Plan_rate) "__get__" = some (some (.builtin "property.__get__")))
    (pc_Plan_rate : PySem.W.takesIn K (.ref p_Plan_rate) = some true)
    (pd_Plan_rate : PySem.W.recIn K p_Plan_rate "property" = some (.ref f_Plan_rate :: re_Plan_rate))
    (l_Plan_rate : K.lookup f_Plan_rate = some ⟨oc_Plan_rate, od_Plan_rate, .func (PySem.W.fnOf "rate" "Plan.rate" (defArgs s_Plan_rate) (defBody s_Plan_rate) (defScope s_Plan_rate) .none kV_Plan_rate dc_Plan_rate pm_Plan_rate an_Plan_rate cd_Plan_rate ct_Plan_rate), sl_Plan_rate⟩)
    (c_Plan_rate : PySem.W.codeIn K cd_Plan_rate "Plan.rate" = true)
    (k_Plan_rate : PySem.W.keepIn K (.ref f_Plan_rate) = true)
    (a_evidence : PySem.W.nsIn K mainGlobals "evidence" = some (some (.ref f_evidence)))
    (l_evidence : K.lookup f_evidence = some ⟨oc_evidence, od_evidence, .func (PySem.W.fnOf "evidence" "evidence" (defArgs s_evidence) (defBody s_evidence) (defScope s_evidence) .none kV_evidence dc_evidence pm_evidence an_evidence cd_evidence ct_evidence), sl_evidence⟩)
    (c_evidence : PySem.W.codeIn K cd_evidence "evidence" = true)
    (k_evidence : PySem.W.keepIn K (.ref f_evidence) = true)
    (a_is_evidence : PySem.W.nsIn K mainGlobals "is_evidence" = some (some (.ref f_is_evidence)))
    (l_is_evidence : K.lookup f_is_evidence = some ⟨oc_is_evidence, od_is_evidence, .func (PySem.W.fnOf "is_evidence" "is_evidence" (defArgs s_is_evidence) (defBody s_is_evidence) (defScope s_is_evidence) .none kV_is_evidence dc_is_evidence pm_is_evidence an_is_evidence cd_is_evidence ct_is_evidence), sl_is_evidence⟩)
    (c_is_evidence : PySem.W.codeIn K cd_is_evidence "is_evidence" = true)
    (k_is_evidence : PySem.W.keepIn K (.ref f_is_evidence) = true)
    (a_first_with : PySem.W.nsIn K mainGlobals "first_with" = some (some (.ref f_first_with)))
    (l_first_with : K.lookup f_first_with = some ⟨oc_first_with, od_first_with, .func (PySem.W.fnOf "first_with" "first_with" (defArgs s_first_with) (defBody s_first_with) (defScope s_first_with) .none kV_first_with dc_first_with pm_first_with an_first_with cd_first_with ct_first_with), sl_first_with⟩)
    (c_first_with : PySem.W.codeIn K cd_first_with "first_with" = true)
    (k_first_with : PySem.W.keepIn K (.ref f_first_with) = true)
    (a_least_endless : PySem.W.nsIn K mainGlobals "least_endless" = some (some (.ref f_least_endless)))
    (l_least_endless : K.lookup f_least_endless = some ⟨oc_least_endless, od_least_endless, .func (PySem.W.fnOf "least_endless" "least_endless" (defArgs s_least_endless) (defBody s_least_endless) (defScope s_least_endless) .none kV_least_endless dc_least_endless pm_least_endless an_least_endless cd_least_endless ct_least_endless), sl_least_endless⟩)
    (c_least_endless : PySem.W.codeIn K cd_least_endless "least_endless" = true)
    (k_least_endless : PySem.W.keepIn K (.ref f_least_endless) = true)
    (a_law_pick : PySem.W.nsIn K mainGlobals "_law_pick" = some (some (.ref f_law_pick)))
    (l_law_pick : K.lookup f_law_pick = some ⟨oc_law_pick, od_law_pick, .func (PySem.W.fnOf "_law_pick" "_law_pick" (defArgs s_law_pick) (defBody s_law_pick) (defScope s_law_pick) .none kV_law_pick dc_law_pick pm_law_pick an_law_pick cd_law_pick ct_law_pick), sl_law_pick⟩)
    (c_law_pick : PySem.W.codeIn K cd_law_pick "_law_pick" = true)
    (k_law_pick : PySem.W.keepIn K (.ref f_law_pick) = true)
    (a_law_parts : PySem.W.nsIn K mainGlobals "_law_parts" = some (some (.ref f_law_parts)))
    (l_law_parts : K.lookup f_law_parts = some ⟨oc_law_parts, od_law_parts, .func (PySem.W.fnOf "_law_parts" "_law_parts" (defArgs s_law_parts) (defBody s_law_parts) (defScope s_law_parts) .none kV_law_parts dc_law_parts pm_law_parts an_law_parts cd_law_parts ct_law_parts), sl_law_parts⟩)
    (c_law_parts : PySem.W.codeIn K cd_law_parts "_law_parts" = true)
    (k_law_parts : PySem.W.keepIn K (.ref f_law_parts) = true)
    (a_law_step : PySem.W.nsIn K mainGlobals "_law_step" = some (some (.ref f_law_step)))
    (l_law_step : K.lookup f_law_step = some ⟨oc_law_step, od_law_step, .func (PySem.W.fnOf "_law_step" "_law_step" (defArgs s_law_step) (defBody s_law_step) (defScope s_law_step) .none kV_law_step dc_law_step pm_law_step an_law_step cd_law_step ct_law_step), sl_law_step⟩)
    (c_law_step : PySem.W.codeIn K cd_law_step "_law_step" = true)
    (k_law_step : PySem.W.keepIn K (.ref f_law_step) = true)
    (a_law_first : PySem.W.nsIn K mainGlobals "_law_first" = some (some (.ref f_law_first)))
    (l_law_first : K.lookup f_law_first = some ⟨oc_law_first, od_law_first, .func (PySem.W.fnOf "_law_first" "_law_first" (defArgs s_law_first) (defBody s_law_first) (defScope s_law_first) .none kV_law_first dc_law_first pm_law_first an_law_first cd_law_first ct_law_first), sl_law_first⟩)
    (c_law_first : PySem.W.codeIn K cd_law_first "_law_first" = true)
    (k_law_first : PySem.W.keepIn K (.ref f_law_first) = true)
    (a_law_is_never : PySem.W.nsIn K mainGlobals "_law_is_never" = some (some (.ref f_law_is_never)))
    (l_law_is_never : K.lookup f_law_is_never = some ⟨oc_law_is_never, od_law_is_never, .func (PySem.W.fnOf "_law_is_never" "_law_is_never" (defArgs s_law_is_never) (defBody s_law_is_never) (defScope s_law_is_never) .none kV_law_is_never dc_law_is_never pm_law_is_never an_law_is_never cd_law_is_never ct_law_is_never), sl_law_is_never⟩)
    (c_law_is_never : PySem.W.codeIn K cd_law_is_never "_law_is_never" = true)
    (k_law_is_never : PySem.W.keepIn K (.ref f_law_is_never) = true)
    (a_law_shown_right : PySem.W.nsIn K mainGlobals "_law_shown_right" = some (some (.ref f_law_shown_right)))
    (l_law_shown_right : K.lookup f_law_shown_right = some ⟨oc_law_shown_right, od_law_shown_right, .func (PySem.W.fnOf "_law_shown_right" "_law_shown_right" (defArgs s_law_shown_right) (defBody s_law_shown_right) (defScope s_law_shown_right) .none kV_law_shown_right dc_law_shown_right pm_law_shown_right an_law_shown_right cd_law_shown_right ct_law_shown_right), sl_law_shown_right⟩)
    (c_law_shown_right : PySem.W.codeIn K cd_law_shown_right "_law_shown_right" = true)
    (k_law_shown_right : PySem.W.keepIn K (.ref f_law_shown_right) = true)
    (a_law : PySem.W.nsIn K mainGlobals "law" = some (some (.ref f_law)))
    (l_law : K.lookup f_law = some ⟨oc_law, od_law, .func (PySem.W.fnOf "law" "law" (defArgs s_law) (defBody s_law) (defScope s_law) .none kV_law dc_law pm_law an_law cd_law ct_law), sl_law⟩)
    (c_law : PySem.W.codeIn K cd_law "law" = true)
    (k_law : PySem.W.keepIn K (.ref f_law) = true)
    : ∃ fd : FuncData, (∀ (s : Shared) (v : Value), BindsTo s fd ⟨[v], []⟩ [("script", v)]) ∧ ∀ base : Heap, K.In base → base.Ns mainGlobals mg → FnOkG l.prog w K mg base CX0 6 fa fd ["script"] (spLaw K) := by
  have e := hfa.symm.trans (PySem.W.mg_of X G a_law)
  cases e
  have T : Txt K mg (⟨C_Plan⟩ : Ads) := ⟨PySem.W.mg_none_of X G z_int, PySem.W.mg_none_of X G z_bool, PySem.W.mg_none_of X G z_str, PySem.W.mg_none_of X G z_tuple, PySem.W.mg_none_of X G z_isinstance, PySem.W.mg_none_of X G z_min, PySem.W.mg_none_of X G z_max, PySem.W.mg_none_of X G z_len, PySem.W.mg_none_of X G z_sum, PySem.W.mg_none_of X G z_all, PySem.W.mg_none_of X G z_list, PySem.W.mg_none_of X G z_range, PySem.W.mg_none_of X G z_repr, ⟨_, PySem.W.mg_of X G ax_THOUSAND, ⟨_, rfl⟩⟩, ⟨_, PySem.W.mg_of X G ax_MOST_LEAST, ⟨_, rfl⟩⟩, ⟨_, PySem.W.mg_of X G ax_MOST_BALANCE, ⟨_, rfl⟩⟩, ⟨_, PySem.W.mg_of X G ax_ENDS, ⟨_, rfl⟩⟩, ⟨_, PySem.W.mg_of X G ax_NEVER, ⟨_, rfl⟩⟩, PySem.W.mg_of X G ag_Plan, ⟨pg_Plan, hd_Plan, po_Plan, sa_Plan⟩, na_Plan_l_parts, fx_isi1, fx_isi2, fx_isi3, fx_isi4⟩
  have F_law_mixed := fun_mk (st := s_law_mixed) l_law_mixed c_law_mixed k_law_mixed
  have B_law_mixed := F_law_mixed.binds (ps := ["state"]) fun _ _ _ _ _ _ us hl => match us, hl with | [_], _ => rfl
  have F_law_take := fun_mk (st := s_law_take) l_law_take c_law_take k_law_take
  have B_law_take := F_law_take.binds (ps := ["state", "size"]) fun _ _ _ _ _ _ us hl => match us, hl with | [_, _], _ => rfl
  have F_law_begun := fun_mk (st := s_law_begun) l_law_begun c_law_begun k_law_begun
  have B_law_begun := F_law_begun.binds (ps := ["script"]) fun _ _ _ _ _ _ us hl => match us, hl with | [_], _ => rfl
  have F_is_number := fun_mk (st := s_is_number) l_is_number c_is_number k_is_number
  have B_is_number := F_is_number.binds (ps := ["value"]) fun _ _ _ _ _ _ us hl => match us, hl with | [_], _ => rfl
  have F_is_number_in := fun_mk (st := s_is_number_in) l_is_number_in c_is_number_in k_is_number_in
  have B_is_number_in := F_is_number_in.binds (ps := ["value", "least", "most"]) fun _ _ _ _ _ _ us hl => match us, hl with | [_, _, _], _ => rfl
  have F_need_plan := fun_mk (st := s_need_plan) l_need_plan c_need_plan k_need_plan
  have B_need_plan := F_need_plan.binds (ps := ["value"]) fun _ _ _ _ _ _ us hl => match us, hl with | [_], _ => rfl
  have F_need_balance := fun_mk (st := s_need_balance) l_need_balance c_need_balance k_need_balance
  have B_need_balance := F_need_balance.binds (ps := ["plan", "balance"]) fun _ _ _ _ _ _ us hl => match us, hl with | [_, _], _ => rfl
  have F_month_with := fun_mk (st := s_month_with) l_month_with c_month_with k_month_with
  have B_month_with := F_month_with.binds (ps := ["plan", "balance", "extra"]) fun _ _ _ _ _ _ us hl => match us, hl with | [_, _, _], _ => rfl
  have F_month := fun_mk (st := s_month) l_month c_month k_month
  have B_month := F_month.binds (ps := ["plan", "balance"]) fun _ _ _ _ _ _ us hl => match us, hl with | [_, _], _ => rfl
  have F_row_with := fun_mk (st := s_row_with) l_row_with c_row_with k_row_with
  have B_row_with := F_row_with.binds (ps := ["plan", "balance", "extra"]) fun _ _ _ _ _ _ us hl => match us, hl with | [_, _, _], _ => rfl
  have F_ending := fun_mk (st := s_ending) l_ending c_ending k_ending
  have B_ending := F_ending.binds (ps := ["plan", "balance"]) fun _ _ _ _ _ _ us hl => match us, hl with | [_, _], _ => rfl
  have F_Plan___init__ : FunD K "__init__" "Plan.__init__" (defArgs s_Plan___init__) (defBody s_Plan___init__) (defScope s_Plan___init__) [.bl false] [] f_Plan___init__ _ := ⟨⟨oc_Plan___init__, od_Plan___init__, .ref T_Plan___init__, kV_Plan___init__, dc_Plan___init__, pm_Plan___init__, an_Plan___init__, cd_Plan___init__, ct_Plan___init__, sl_Plan___init__, rfl, l_Plan___init__, c_Plan___init__, .inr ⟨by simp, T_Plan___init__, _, [.bool false], tn_Plan___init__, rfl, t_Plan___init__, rfl, .cons rfl (.nil)⟩, .inl rfl⟩, k_Plan___init__⟩
  have B_Plan___init__ : Binds K (PySem.W.fnOf "__init__" "Plan.__init__" (defArgs s_Plan___init__) (defBody s_Plan___init__) (defScope s_Plan___init__) (.ref T_Plan___init__) kV_Plan___init__ dc_Plan___init__ pm_Plan___init__ an_Plan___init__ cd_Plan___init__ ct_Plan___init__) ["self", "rate", "share", "least", "plus"] [] := by
    obtain ⟨ds, hd, hb⟩ := F_Plan___init__.binds1 (ps := ["self", "rate", "share", "least", "plus"]) 5 1 (by simp) rfl (fun T kV doc pm an cdv ct us its hu hi => match us, hu, its, hi with | [_, _, _, _, _], _, [_], _ => ⟨_, rfl, rfl⟩)
    cases hd
    exact hb
  have F_Plan_rate := fun_mk (st := s_Plan_rate) l_Plan_rate c_Plan_rate k_Plan_rate
  have B_Plan_rate := F_Plan_rate.binds (ps := ["self"]) fun _ _ _ _ _ _ us hl => match us, hl with | [_], _ => rfl
  have F_evidence := fun_mk (st := s_evidence) l_evidence c_evidence k_evidence
  have B_evidence := F_evidence.binds (ps := ["plan", "balance"]) fun _ _ _ _ _ _ us hl => match us, hl with | [_, _], _ => rfl
  have F_is_evidence := fun_mk (st := s_is_evidence) l_is_evidence c_is_evidence k_is_evidence
  have B_is_evidence := F_is_evidence.binds (ps := ["plan", "balance", "value"]) fun _ _ _ _ _ _ us hl => match us, hl with | [_, _, _], _ => rfl
  have F_first_with := fun_mk (st := s_first_with) l_first_with c_first_with k_first_with
  have B_first_with := F_first_with.binds (ps := ["plan", "interest"]) fun _ _ _ _ _ _ us hl => match us, hl with | [_, _], _ => rfl
  have F_least_endless := fun_mk (st := s_least_endless) l_least_endless c_least_endless k_least_endless
  have B_least_endless := F_least_endless.binds (ps := ["plan"]) fun _ _ _ _ _ _ us hl => match us, hl with | [_], _ => rfl
  have F_law_pick := fun_mk (st := s_law_pick) l_law_pick c_law_pick k_law_pick
  have B_law_pick := F_law_pick.binds (ps := ["state", "some"]) fun _ _ _ _ _ _ us hl => match us, hl with | [_, _], _ => rfl
  have F_law_parts := fun_mk (st := s_law_parts) l_law_parts c_law_parts k_law_parts
  have B_law_parts := F_law_parts.binds (ps := ["state"]) fun _ _ _ _ _ _ us hl => match us, hl with | [_], _ => rfl
  have F_law_step := fun_mk (st := s_law_step) l_law_step c_law_step k_law_step
  have B_law_step := F_law_step.binds (ps := ["parts", "sum_here"]) fun _ _ _ _ _ _ us hl => match us, hl with | [_, _], _ => rfl
  have F_law_first := fun_mk (st := s_law_first) l_law_first c_law_first k_law_first
  have B_law_first := F_law_first.binds (ps := ["parts"]) fun _ _ _ _ _ _ us hl => match us, hl with | [_], _ => rfl
  have F_law_is_never := fun_mk (st := s_law_is_never) l_law_is_never c_law_is_never k_law_is_never
  have B_law_is_never := F_law_is_never.binds (ps := ["parts", "found", "most"]) fun _ _ _ _ _ _ us hl => match us, hl with | [_, _, _], _ => rfl
  have F_law_shown_right := fun_mk (st := s_law_shown_right) l_law_shown_right c_law_shown_right k_law_shown_right
  have B_law_shown_right := F_law_shown_right.binds (ps := ["state", "parts", "made", "begin"]) fun _ _ _ _ _ _ us hl => match us, hl with | [_, _, _, _], _ => rfl
  have F_law := fun_mk (st := s_law) l_law c_law k_law
  refine ⟨PySem.W.fnOf "law" "law" (defArgs s_law) (defBody s_law) (defScope s_law) .none kV_law dc_law pm_law an_law cd_law ct_law, fun s v => .of_eq rfl, fun base _ _ => ?_⟩
  have O_law_mixed := ok_law_mixed (P := l.prog) (w := w) (base := base) T F_law_mixed
  have G_law_mixed : FnAt l.prog w K mg base CX0 1 "_law_mixed" _ _ := ⟨f_law_mixed, _, PySem.W.mg_of X G a_law_mixed, k_law_mixed, B_law_mixed, O_law_mixed⟩
  have O_law_take := ok_law_take (P := l.prog) (w := w) (base := base) T G_law_mixed F_law_take
  have G_law_take : FnAt l.prog w K mg base CX0 2 "_law_take" _ _ := ⟨f_law_take, _, PySem.W.mg_of X G a_law_take, k_law_take, B_law_take, O_law_take⟩
  have O_law_begun := ok_law_begun (P := l.prog) (w := w) (base := base) T F_law_begun
  have G_law_begun : FnAt l.prog w K mg base CX0 1 "_law_begun" _ _ := ⟨f_law_begun, _, PySem.W.mg_of X G a_law_begun, k_law_begun, B_law_begun, O_law_begun⟩
  have O_is_number := ok_is_number (P := l.prog) (w := w) (base := base) T F_is_number
  have G_is_number : FnAt l.prog w K mg base CX0 1 "is_number" _ _ := ⟨f_is_number, _, PySem.W.mg_of X G a_is_number, k_is_number, B_is_number, O_is_number⟩
  have O_is_number_in := ok_is_number_in (P := l.prog) (w := w) (base := base) T G_is_number F_is_number_in
  have G_is_number_in : FnAt l.prog w K mg base CX0 2 "is_number_in" _ _ := ⟨f_is_number_in, _, PySem.W.mg_of X G a_is_number_in, k_is_number_in, B_is_number_in, O_is_number_in⟩
  have O_need_plan := ok_need_plan (P := l.prog) (w := w) (base := base) T F_need_plan
  have G_need_plan : FnAt l.prog w K mg base CX0 1 "need_plan" _ _ := ⟨f_need_plan, _, PySem.W.mg_of X G a_need_plan, k_need_plan, B_need_plan, O_need_plan⟩
  have O_need_balance := ok_need_balance (P := l.prog) (w := w) (base := base) T G_need_plan G_is_number_in F_need_balance
  have G_need_balance : FnAt l.prog w K mg base CX0 3 "need_balance" _ _ := ⟨f_need_balance, _, PySem.W.mg_of X G a_need_balance, k_need_balance, B_need_balance, O_need_balance⟩
  have O_month_with := ok_month_with (P := l.prog) (w := w) (base := base) T F_month_with
  have G_month_with : FnAt l.prog w K mg base CX0 1 "month_with" _ _ := ⟨f_month_with, _, PySem.W.mg_of X G a_month_with, k_month_with, B_month_with, O_month_with⟩
  have O_month := ok_month (P := l.prog) (w := w) (base := base) T G_need_balance G_month_with F_month
  have G_month : FnAt l.prog w K mg base CX0 4 "month" _ _ := ⟨f_month, _, PySem.W.mg_of X G a_month, k_month, B_month, O_month⟩
  have O_row_with := ok_row_with (P := l.prog) (w := w) (base := base) T G_month_with F_row_with
  have G_row_with : FnAt l.prog w K mg base CX0 2 "row_with" _ _ := ⟨f_row_with, _, PySem.W.mg_of X G a_row_with, k_row_with, B_row_with, O_row_with⟩
  have O_ending := ok_ending (P := l.prog) (w := w) (base := base) T G_need_balance G_row_with G_month_with F_ending
  have G_ending : FnAt l.prog w K mg base CX0 4 "ending" _ _ := ⟨f_ending, _, PySem.W.mg_of X G a_ending, k_ending, B_ending, O_ending⟩
  have O_Plan___init__ := ok_Plan___init__ (P := l.prog) (w := w) (base := base) T G_is_number_in F_Plan___init__
  have N_Plan : NewAt l.prog w K mg base CX0 3 "Plan" C_Plan _ _ := ⟨_, _, ⟨mk_Plan, a_Plan___init__, i_Plan___init__, kc_Plan⟩, PySem.W.mg_of X G ag_Plan, B_Plan___init__, O_Plan___init__⟩
  have O_Plan_rate := ok_Plan_rate (P := l.prog) (w := w) (base := base) T F_Plan_rate
  have PR_rate : PropAt l.prog w K mg base CX0 1 C_Plan "rate" _ := ⟨p_Plan_rate, f_Plan_rate, _, ⟨pa_Plan_rate, pb_Plan_rate, pc_Plan_rate, ⟨_, pd_Plan_rate⟩⟩, B_Plan_rate, O_Plan_rate⟩
  have O_evidence_n := ok_evidence_n (P := l.prog) (w := w) (base := base) T G_need_balance G_row_with F_evidence
  have G_evidence_n : FnAt l.prog w K mg base CX0 4 "evidence" _ _ := ⟨f_evidence, _, PySem.W.mg_of X G a_evidence, k_evidence, B_evidence, O_evidence_n⟩
  have O_evidence_e := ok_evidence_e (P := l.prog) (w := w) (base := base) T G_need_balance G_row_with F_evidence
  have G_evidence_e : FnAt l.prog w K mg base CX0 4 "evidence" _ _ := ⟨f_evidence, _, PySem.W.mg_of X G a_evidence, k_evidence, B_evidence, O_evidence_e⟩
  have O_is_evidence := ok_is_evidence (P := l.prog) (w := w) (base := base) T G_need_balance G_row_with G_is_number_in G_month_with G_is_number F_is_evidence
  have G_is_evidence : FnAt l.prog w K mg base CX0 4 "is_evidence" _ _ := ⟨f_is_evidence, _, PySem.W.mg_of X G a_is_evidence, k_is_evidence, B_is_evidence, O_is_evidence⟩
  have O_first_with := ok_first_with (P := l.prog) (w := w) (base := base) T PR_rate F_first_with
  have G_first_with : FnAt l.prog w K mg base CX0 3 "first_with" _ _ := ⟨f_first_with, _, PySem.W.mg_of X G a_first_with, k_first_with, B_first_with, O_first_with⟩
  have O_least_endless := ok_least_endless (P := l.prog) (w := w) (base := base) T G_need_plan G_first_with F_least_endless
  have G_least_endless : FnAt l.prog w K mg base CX0 4 "least_endless" _ _ := ⟨f_least_endless, _, PySem.W.mg_of X G a_least_endless, k_least_endless, B_least_endless, O_least_endless⟩
  have Kw_least_endless : FnKw l.prog w K mg base CX0 4 "least_endless" "plan" _ := ⟨f_least_endless, _, PySem.W.mg_of X G a_least_endless, k_least_endless, kbn_one F_least_endless (fun _ _ _ _ _ _ _ => rfl), O_least_endless⟩
  have O_law_pick := ok_law_pick (P := l.prog) (w := w) (base := base) T G_law_take F_law_pick
  have G_law_pick : FnAt l.prog w K mg base CX0 3 "_law_pick" _ _ := ⟨f_law_pick, _, PySem.W.mg_of X G a_law_pick, k_law_pick, B_law_pick, O_law_pick⟩
  have O_law_parts := ok_law_parts (P := l.prog) (w := w) (base := base) T G_law_pick G_law_take F_law_parts
  have G_law_parts : FnAt l.prog w K mg base CX0 4 "_law_parts" _ _ := ⟨f_law_parts, _, PySem.W.mg_of X G a_law_parts, k_law_parts, B_law_parts, O_law_parts⟩
  have O_law_step := ok_law_step (P := l.prog) (w := w) (base := base) T F_law_step
  have G_law_step : FnAt l.prog w K mg base CX0 1 "_law_step" _ _ := ⟨f_law_step, _, PySem.W.mg_of X G a_law_step, k_law_step, B_law_step, O_law_step⟩
  have O_law_first := ok_law_first (P := l.prog) (w := w) (base := base) T G_law_step F_law_first
  have G_law_first : FnAt l.prog w K mg base CX0 2 "_law_first" _ _ := ⟨f_law_first, _, PySem.W.mg_of X G a_law_first, k_law_first, B_law_first, O_law_first⟩
  have O_law_is_never := ok_law_is_never (P := l.prog) (w := w) (base := base) T G_law_step F_law_is_never
  have G_law_is_never : FnAt l.prog w K mg base CX0 2 "_law_is_never" _ _ := ⟨f_law_is_never, _, PySem.W.mg_of X G a_law_is_never, k_law_is_never, B_law_is_never, O_law_is_never⟩
  have O_law_shown_right := ok_law_shown_right (P := l.prog) (w := w) (base := base) T G_is_evidence G_law_take G_ending G_law_is_never G_month G_evidence_n F_law_shown_right
  have G_law_shown_right : FnAtG l.prog w K mg base CX0 5 "_law_shown_right" _ _ := ⟨f_law_shown_right, _, PySem.W.mg_of X G a_law_shown_right, k_law_shown_right, B_law_shown_right, O_law_shown_right⟩
  have O_law := ok_law (P := l.prog) (w := w) (base := base) T G_law_begun G_law_parts N_Plan G_law_first G_least_endless Kw_least_endless G_law_take G_evidence_e G_ending G_law_shown_right F_law
  exact O_law
theorem walk {l : PySem.W.OpenLaw} {q : Program} {loose : List Str} {XP : (Str → Option Value) → Heap → Prop} {YP : World → Heap → Prop} {d : DefRec} {K : Params → PySem.W.Frag} (hn : l.most = some 63) (hdf : d.params.defaults = [])
    (hY : ∀ (w : World) (h : Heap), YP w h → (K w.params).In h)
    (F : ∀ (w : World) (mg : Str → Option Value) (fa : Addr) (h : Heap), (K w.params).In h → h.Ns mainGlobals mg → mg d.name = some (.ref fa) →
      ∃ fd : FuncData, (∀ (s : Shared) (u : Value), BindsTo s fd ⟨[u], []⟩ [("script", u)]) ∧ ∀ base : Heap, (K w.params).In base → base.Ns mainGlobals mg → FnOkG l.prog w (K w.params) mg base CX0 6 fa fd ["script"] (spLaw (K w.params))) :
    PySem.W.WalkO q loose XP YP l.row.toRowW d [] (fun f vs => PySem.call f vs) :=
  L2.walkG_of (n := 63) (k := 6) (x := "script") (CX := fun _ => CX0) (sp := fun w => spLaw (K w.params)) hn (by decide) hdf ⟨rfl, by decide, by decide⟩ hY F (fun _ _ a ns hl _ hS => ⟨a, ns, rfl, hS, hl, fun _ => rfl⟩) fun _ _ _ _ _ z => z

end
end K29
open PySem PySem.W PyProof.Rows
set_option maxRecDepth 100000 in
set_option maxHeartbeats 0 in
theorem PySem.Challenge.cw_wholepaid_k29_whole_least_endless_of_all_holds : PySem.Challenge.rw_wholepaid_k29_whole_least_endless_of_all.Holds := by
  w_on; o_law; k_head; (case hw => w_witness2)
  k_fill
  refine K29.walk (l := PySem.Challenge.rw_wholepaid_k29_whole_least_endless_of_all) rfl rfl (fun w h Y => PySem.W.kIn_of Y) ?F
  case F =>
    intro w mg fa h KX G hmg
    refine' K29.all_mk KX G hmg ?z_int ?z_bool ?z_str ?z_tuple ?z_isinstance ?z_min ?z_max ?z_len ?z_sum ?z_all ?z_list ?z_range ?z_repr ?ax_THOUSAND ?ax_MOST_LEAST ?ax_MOST_BALANCE ?ax_ENDS ?ax_NEVER ?ag_Plan ?pg_Plan ?hd_Plan ?po_Plan ?sa_Plan ?na_Plan_l_parts ?fx_isi1 ?fx_isi2 ?fx_isi3 ?fx_isi4 ?a_law_mixed ?l_law_mixed ?c_law_mixed ?k_law_mixed ?a_law_take ?l_law_take ?c_law_take ?k_law_take ?a_law_begun ?l_law_begun ?c_law_begun ?k_law_begun ?a_is_number ?l_is_number ?c_is_number ?k_is_number ?a_is_number_in ?l_is_number_in ?c_is_number_in ?k_is_number_in ?a_need_plan ?l_need_plan ?c_need_plan ?k_need_plan ?a_need_balance ?l_need_balance ?c_need_balance ?k_need_balance ?a_month_with ?l_month_with ?c_month_with ?k_month_with ?a_month ?l_month ?c_month ?k_month ?a_row_with ?l_row_with ?c_row_with ?k_row_with ?a_ending ?l_ending ?c_ending ?k_ending ?a_Plan___init__ ?i_Plan___init__ ?mk_Plan ?kc_Plan ?l_Plan___init__ ?t_Plan___init__ ?c_Plan___init__ ?k_Plan___init__ ?pa_Plan_rate ?pb_Plan_rate ?pc_Plan_rate ?pd_Plan_rate ?l_Plan_rate ?c_Plan_rate ?k_Plan_rate ?a_evidence ?l_evidence ?c_evidence ?k_evidence ?a_is_evidence ?l_is_evidence ?c_is_evidence ?k_is_evidence ?a_first_with ?l_first_with ?c_first_with ?k_first_with ?a_least_endless ?l_least_endless ?c_least_endless ?k_least_endless ?a_law_pick ?l_law_pick ?c_law_pick ?k_law_pick ?a_law_parts ?l_law_parts ?c_law_parts ?k_law_parts ?a_law_step ?l_law_step ?c_law_step ?k_law_step ?a_law_first ?l_law_first ?c_law_first ?k_law_first ?a_law_is_never ?l_law_is_never ?c_law_is_never ?k_law_is_never ?a_law_shown_right ?l_law_shown_right ?c_law_shown_right ?k_law_shown_right ?a_law ?l_law ?c_law ?k_law
    (case z_int => k_is)
    (case z_bool => k_is)
    (case z_str => k_is)
    (case z_tuple => k_is)
    (case z_isinstance => k_is)
    (case z_min => k_is)
    (case z_max => k_is)
    (case z_len => k_is)
    (case z_sum => k_is)
    (case z_all => k_is)
    (case z_list => k_is)
    (case z_range => k_is)
    (case z_repr => k_is)
    (case ax_THOUSAND => k_is)
    (case ax_MOST_LEAST => k_is)
    (case ax_MOST_BALANCE => k_is)
    (case ax_ENDS => k_is)
    (case ax_NEVER => k_is)
    (case ag_Plan => k_is)
    (case pg_Plan => k_is)
    (case hd_Plan => k_is)
    (case po_Plan => k_is)
    (case sa_Plan => k_is)
    (case na_Plan_l_parts => k_is)
    (case fx_isi1 => k_is)
    (case fx_isi2 => k_is)
    (case fx_isi3 => k_is)
    (case fx_isi4 => k_is)
    (case a_law_mixed => k_is)
    (case l_law_mixed => k_is)
    (case c_law_mixed => k_is)
    (case k_law_mixed => k_is)
    (case a_law_take => k_is)
    (case l_law_take => k_is)
    (case c_law_take => k_is)
    (case k_law_take => k_is)
    (case a_law_begun => k_is)
    (case l_law_begun => k_is)
    (case c_law_begun => k_is)
    (case k_law_begun => k_is)
    (case a_is_number => k_is)
    (case l_is_number => k_is)
    (case c_is_number => k_is)
    (case k_is_number => k_is)
    (case a_is_number_in => k_is)
    (case l_is_number_in => k_is)
    (case c_is_number_in => k_is)
    (case k_is_number_in => k_is)
    (case a_need_plan => k_is)
    (case l_need_plan => k_is)
    (case c_need_plan => k_is)
    (case k_need_plan => k_is)
    (case a_need_balance => k_is)
    (case l_need_balance => k_is)
    (case c_need_balance => k_is)
    (case k_need_balance => k_is)
    (case a_month_with => k_is)
    (case l_month_with => k_is)
    (case c_month_with => k_is)
    (case k_month_with => k_is)
    (case a_month => k_is)
    (case l_month => k_is)
    (case c_month => k_is)
    (case k_month => k_is)
    (case a_row_with => k_is)
    (case l_row_with => k_is)
    (case c_row_with => k_is)
    (case k_row_with => k_is)
    (case a_ending => k_is)
    (case l_ending => k_is)
    (case c_ending => k_is)
    (case k_ending => k_is)
    (case a_Plan___init__ => k_is)
    (case i_Plan___init__ => k_is)
    (case mk_Plan => k_is)
    (case kc_Plan => k_is)
    (case l_Plan___init__ => k_is)
    (case t_Plan___init__ => k_is)
    (case c_Plan___init__ => k_is)
    (case k_Plan___init__ => k_is)
    (case pa_Plan_rate => k_is)
    (case pb_Plan_rate => k_is)
    (case pc_Plan_rate => k_is)
    (case pd_Plan_rate => k_is)
    (case l_Plan_rate => k_is)
    (case c_Plan_rate => k_is)
    (case k_Plan_rate => k_is)
    (case a_evidence => k_is)
    (case l_evidence => k_is)
    (case c_evidence => k_is)
    (case k_evidence => k_is)
    (case a_is_evidence => k_is)
    (case l_is_evidence => k_is)
    (case c_is_evidence => k_is)
    (case k_is_evidence => k_is)
    (case a_first_with => k_is)
    (case l_first_with => k_is)
    (case c_first_with => k_is)
    (case k_first_with => k_is)
    (case a_least_endless => k_is)
    (case l_least_endless => k_is)
    (case c_least_endless => k_is)
    (case k_least_endless => k_is)
    (case a_law_pick => k_is)
    (case l_law_pick => k_is)
    (case c_law_pick => k_is)
    (case k_law_pick => k_is)
    (case a_law_parts => k_is)
    (case l_law_parts => k_is)
    (case c_law_parts => k_is)
    (case k_law_parts => k_is)
    (case a_law_step => k_is)
    (case l_law_step => k_is)
    (case c_law_step => k_is)
    (case k_law_step => k_is)
    (case a_law_first => k_is)
    (case l_law_first => k_is)
    (case c_law_first => k_is)
    (case k_law_first => k_is)
    (case a_law_is_never => k_is)
    (case l_law_is_never => k_is)
    (case c_law_is_never => k_is)
    (case k_law_is_never => k_is)
    (case a_law_shown_right => k_is)
    (case l_law_shown_right => k_is)
    (case c_law_shown_right => k_is)
    (case k_law_shown_right => k_is)
    (case a_law => k_is)
    (case l_law => k_is)
    (case c_law => k_is)
    (case k_law => k_is)

