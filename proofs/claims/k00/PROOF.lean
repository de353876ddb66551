import PyProof.Rows.All
import Wide.All
import OpenK.AllK
import Wide.FinOn
import HandS.ForMost
import HandS.ForExc
import HandS.CallSlots
import HandS.Walk
import HandS.Flow
import HandS.Conv
import HandS.DictComp
import HandS.IsInst
import HandS.RaiseMore
import HandS.Style
import HandS.Star
import HandS.Defaults
import HandS.ClsMeth
import HandS.OwnEq
import HandS.IterVal
import PyProof.WalksMore
import PySem.Challenge.RW_joinflags_k00_bars_made_and_asked
set_option Elab.async false
set_option linter.all false
set_option maxRecDepth 100000
set_option maxHeartbeats 4000000
/-! The data layer: pure data D, the free monad of draws M, what a heap value represents (Rep), readings by pure functions (tD, tS). -/
namespace DL
open PySem PySem.Spec L2

inductive D where
  | non | bl (b : Bool) | int (i : Int) | str (x : Str)
  | tup (l : List D) | lst (l : List D) | dct (l : List (Key × D)) | ins (c : Str) (fs : List (Str × D)) | pen

/-- the results of a run: a value, a draw below n, a raise, or a way that no rule serves -/
inductive M (α : Type) where
  | ret (a : α) | draw (n : Nat) (k : Nat → M α) | raise (c : Str) (fs : List (Str × D)) | fail

namespace M
variable {α β γ : Type}
def bind : M α → (α → M β) → M β
  | ret a, f => f a
  | draw n k, f => draw n fun i => (k i).bind f
  | raise c fs, _ => raise c fs
  | fail, _ => fail
instance : Monad M where
  pure := ret
  bind := bind
def ofO : Option α → M α
  | some a => ret a
  | none => fail
/-- P of every end (with the draws that are left), R of every raise -/
def All (P : α → Nat → Prop) (R : Str → List (Str × D) → Nat → Prop) : M α → Nat → Prop
  | ret a, n => P a n
  | draw m k, n => ∃ n', n = n' + 1 ∧ ∀ i, i < m → All P R (k i) n'
  | raise c fs, n => R c fs n
  | fail, _ => False
theorem all_bind {P : β → Nat → Prop} {R : Str → List (Str × D) → Nat → Prop} {f : α → M β} : ∀ {m : M α} {n : Nat}, (m.bind f).All P R n → m.All (fun a n' => (f a).All P R n') R n
  | ret _, _, h => h
  | draw _ k, _, ⟨n', e, h⟩ => ⟨n', e, fun i hi => all_bind (m := k i) (h i hi)⟩
  | raise _ _, _, h => h
  | fail, _, h => h
theorem bind_all {P : β → Nat → Prop} {R : Str → List (Str × D) → Nat → Prop} {f : α → M β} : ∀ {m : M α} {n : Nat}, m.All (fun a n' => (f a).All P R n') R n → (m.bind f).All P R n
  | ret _, _, h => h
  | draw _ k, _, ⟨n', e, h⟩ => ⟨n', e, fun i hi => bind_all (m := k i) (h i hi)⟩
  | raise _ _, _, h => h
  | fail, _, h => h
theorem all_mono {P P' : α → Nat → Prop} {R R' : Str → List (Str × D) → Nat → Prop} : ∀ {m : M α} {n : Nat}, m.All P R n → (∀ a k, k ≤ n → P a k → P' a k) → (∀ c fs k, k ≤ n → R c fs k → R' c fs k) → m.All P' R' n
  | ret a, n, h, hp, _ => hp a n (Nat.le_refl n) h
  | draw _ k, n, ⟨n', e, h⟩, hp, hr => ⟨n', e, fun i hi => all_mono (m := k i) (h i hi) (fun a j hj => hp a j (by omega)) fun c fs j hj => hr c fs j (by omega)⟩
  | raise c fs, n, h, _, hr => hr c fs n (Nat.le_refl n) h
  | fail, _, h, _, _ => h
end M

/-- the pen's dict and its list of cells -/
abbrev Pn := Option (Addr × Addr)
def IsPen (pn : Pn) (a : Addr) : Prop := ∃ l, pn = some (a, l)
section
variable (K : PySem.W.Frag) (mg : Str → Option Value) (pn : Pn) (G : Hp)
/-! what a value stands for in the frozen heap G -/
mutual
inductive Rep : V → D → Prop
  | non : Rep .non .non
  | bl {b : Bool} : Rep (.bl b) (.bl b)
  | int {i : Int} : Rep (.int i) (.int i)
  | str {x : Str} : Rep (.str x) (.str x)
  | tup {a : Addr} {vs : List V} {ds : List D} : SqT K G a vs → RepL vs ds → Rep (.ref a) (.tup ds)
  | lst {a : Addr} {vs : List V} {ds : List D} : G a = some (.lst vs) → RepL vs ds → Rep (.ref a) (.lst ds)
  | dct {a : Addr} {o : Obj} {kvs : List (Key × V)} {kds : List (Key × D)} : G a = some (.frz o (.dK kvs)) → RepK kvs kds → Rep (.ref a) (.dct kds)
  | ins {a C dx : Addr} {fs : List (Str × V)} {gs : List (Str × D)} {c : Str} : mg c = some (.ref C) → G a = some (.ins C dx fs) → RepF fs gs → Rep (.ref a) (.ins c gs)
  | pen {p : Addr} : IsPen pn p → Rep (.ref p) .pen
inductive RepL : List V → List D → Prop
  | nil : RepL [] []
  | cons {v : V} {d : D} {vs : List V} {ds : List D} : Rep v d → RepL vs ds → RepL (v :: vs) (d :: ds)
inductive RepK : List (Key × V) → List (Key × D) → Prop
  | nil : RepK [] []
  | cons {k : Key} {v : V} {d : D} {vs : List (Key × V)} {ds : List (Key × D)} : Rep v d → RepK vs ds → RepK ((k, v) :: vs) ((k, d) :: ds)
inductive RepF : List (Str × V) → List (Str × D) → Prop
  | nil : RepF [] []
  | cons {k : Str} {v : V} {d : D} {vs : List (Str × V)} {ds : List (Str × D)} : Rep v d → RepF vs ds → RepF ((k, v) :: vs) ((k, d) :: ds)
end
end

theorem sqT_mono {K : PySem.W.Frag} {G G' : Hp} (e : Same G G') {a : Addr} {vs : List V} (h : SqT K G a vs) : SqT K G' a vs := by
  rcases h with (h | ⟨o, h⟩) | h
  · exact .inl (.inl (e _ _ h))
  · exact .inl (.inr ⟨o, e _ _ h⟩)
  · exact .inr h

section
variable {K : PySem.W.Frag} {mg : Str → Option Value} {pn : Pn} {G G' : Hp}
mutual
theorem Rep.mono (e : Same G G') : ∀ {v : V} {d : D}, Rep K mg pn G v d → Rep K mg pn G' v d
  | _, _, .non => .non
  | _, _, .bl => .bl
  | _, _, .int => .int
  | _, _, .str => .str
  | _, _, .tup h r => .tup (sqT_mono e h) (RepL.mono e r)
  | _, _, .lst h r => .lst (e _ _ h) (RepL.mono e r)
  | _, _, .dct h r => .dct (e _ _ h) (RepK.mono e r)
  | _, _, .ins m h r => .ins m (e _ _ h) (RepF.mono e r)
  | _, _, .pen h => .pen h
theorem RepL.mono (e : Same G G') : ∀ {vs : List V} {ds : List D}, RepL K mg pn G vs ds → RepL K mg pn G' vs ds
  | _, _, .nil => .nil
  | _, _, .cons r t => .cons (Rep.mono e r) (RepL.mono e t)
theorem RepK.mono (e : Same G G') : ∀ {vs : List (Key × V)} {ds : List (Key × D)}, RepK K mg pn G vs ds → RepK K mg pn G' vs ds
  | _, _, .nil => .nil
  | _, _, .cons r t => .cons (Rep.mono e r) (RepK.mono e t)
theorem RepF.mono (e : Same G G') : ∀ {vs : List (Str × V)} {ds : List (Str × D)}, RepF K mg pn G vs ds → RepF K mg pn G' vs ds
  | _, _, .nil => .nil
  | _, _, .cons r t => .cons (Rep.mono e r) (RepF.mono e t)
end
theorem RepL.length : ∀ {vs : List V} {ds : List D}, RepL K mg pn G vs ds → vs.length = ds.length
  | _, _, .nil => rfl
  | _, _, .cons _ t => congrArg (· + 1) (RepL.length t)
theorem RepL.append : ∀ {vs ws : List V} {ds es : List D}, RepL K mg pn G vs ds → RepL K mg pn G ws es → RepL K mg pn G (vs ++ ws) (ds ++ es)
  | _, _, _, _, .nil, s => s
  | _, _, _, _, .cons r t, s => .cons r (RepL.append t s)
theorem RepL.get : ∀ {vs : List V} {ds : List D} {i : Nat} {v : V}, RepL K mg pn G vs ds → vs[i]? = some v → ∃ d, ds[i]? = some d ∧ Rep K mg pn G v d
  | _, _, _, _, .nil, e => by simp at e
  | _, _, 0, _, .cons r _, e => by simp at e; subst e; exact ⟨_, rfl, r⟩
  | _, _, i + 1, v, .cons _ t, e => by
    obtain ⟨u, h1, h2⟩ := RepL.get (i := i) (v := v) t (by simpa using e)
    exact ⟨u, by simpa using h1, h2⟩
theorem RepL.getD : ∀ {vs : List V} {ds : List D} {i : Nat} {d : D}, RepL K mg pn G vs ds → ds[i]? = some d → ∃ v, vs[i]? = some v ∧ Rep K mg pn G v d
  | _, _, _, _, .nil, e => by simp at e
  | _, _, 0, _, .cons r _, e => by simp at e; subst e; exact ⟨_, rfl, r⟩
  | _, _, i + 1, v, .cons _ t, e => by
    obtain ⟨u, h1, h2⟩ := RepL.getD (i := i) (d := v) t (by simpa using e)
    exact ⟨u, by simpa using h1, h2⟩
theorem RepL.take : ∀ {vs : List V} {ds : List D} (n : Nat), RepL K mg pn G vs ds → RepL K mg pn G (vs.take n) (ds.take n)
  | _, _, 0, _ => .nil
  | _, _, _ + 1, .nil => .nil
  | _, _, n + 1, .cons r t => .cons r (RepL.take n t)
theorem RepL.drop : ∀ {vs : List V} {ds : List D} (n : Nat), RepL K mg pn G vs ds → RepL K mg pn G (vs.drop n) (ds.drop n)
  | _, _, 0, r => r
  | _, _, _ + 1, .nil => .nil
  | _, _, n + 1, .cons _ t => RepL.drop n t
theorem RepL.rev {vs : List V} {ds : List D} (h : RepL K mg pn G vs ds) : RepL K mg pn G vs.reverse ds.reverse := by
  induction vs generalizing ds with
  | nil => cases h; exact .nil
  | cons v vs ih =>
    cases h with
    | cons r t => rw [List.reverse_cons, List.reverse_cons]; exact (ih t).append (.cons r .nil)
theorem RepL.strs : ∀ {xs : List Str} , RepL K mg pn G (xs.map V.str) (xs.map D.str)
  | [] => .nil
  | _ :: _ => .cons .str RepL.strs
theorem RepL.ofStrs : ∀ {xs : List Str} {vs : List V}, RepL K mg pn G vs (xs.map D.str) → vs = xs.map V.str
  | [], _, h => by cases h; rfl
  | x :: xs, _, h => by
    cases h with
    | cons r t => cases r; rw [RepL.ofStrs t]; rfl
theorem RepF.lookup {f : Str} : ∀ {vs : List (Str × V)} {ds : List (Str × D)} {d : D}, RepF K mg pn G vs ds → ds.lookup f = some d → ∃ v, vs.lookup f = some v ∧ Rep K mg pn G v d
  | _, _, _, .nil, e => by simp at e
  | _, _, d, .cons (k := k) (v := v) (d := d0) (vs := vs) (ds := ds) r t, e => by
    by_cases h : f = k
    · subst h
      simp [List.lookup] at e
      subst e
      exact ⟨v, by simp [List.lookup], r⟩
    · have hb : (f == k) = false := by simp [h]
      simp only [List.lookup, hb] at e
      obtain ⟨u, h1, h2⟩ := RepF.lookup t e
      exact ⟨u, by simp only [List.lookup, hb]; exact h1, h2⟩
theorem RepF.lookupN {f : Str} : ∀ {vs : List (Str × V)} {ds : List (Str × D)}, RepF K mg pn G vs ds → ds.lookup f = none → vs.lookup f = none
  | _, _, .nil, e => rfl
  | _, _, .cons (k := k) (v := v) (d := d0) (vs := vs) (ds := ds) r t, e => by
    by_cases h : f = k
    · subst h
      simp [List.lookup] at e
    · have hb : (f == k) = false := by simp [h]
      simp only [List.lookup, hb] at e ⊢
      exact RepF.lookupN t e
end

/-- the pen at its place: its cells, how many were begun, what is left of a great one; n draws may follow -/
def PenOk (pn : Pn) (G H : Hp) (n : Nat) : Prop :=
  ∀ p l, pn = some (p, l) → G p = none ∧ ∃ (cells : List Int) (at_ left : Int),
    H p = some (.dK [(.inr "cells", .ref l), (.inr "at", .int at_), (.inr "left", .int left)]) ∧ G l = some (.lst (cells.map V.int)) ∧ cells.length ≤ 63 ∧ 0 ≤ at_ ∧ at_ + n ≤ 100000 ∧ 0 ≤ left
/-- from one moment to a later one: all that was stands, but for the pen -/
structure Step (pn : Pn) (G H G' H' : Hp) (n' : Nat) : Prop where
  gg : Same G G'
  gh : Same G' H'
  fr : ∀ a, G a = none → H a ≠ none → G' a = none
  hh : ∀ a o, H a = some o → ¬ IsPen pn a → H' a = some o
  pen : PenOk pn G' H' n'
theorem Step.trans {pn : Pn} {G H G1 H1 G2 H2 : Hp} {n1 n2 : Nat} (x : Step pn G H G1 H1 n1) (y : Step pn G1 H1 G2 H2 n2) (hp : ∀ p, IsPen pn p → H p ≠ none → H1 p ≠ none) : Step pn G H G2 H2 n2 where
  gg := x.gg.trans y.gg
  gh := y.gh
  fr := fun a g h => by
    refine y.fr a (x.fr a g h) ?_
    by_cases hpa : IsPen pn a
    · exact hp a hpa h
    · intro z
      cases e : H a with
      | none => exact h e
      | some o => rw [x.hh a o e hpa] at z; cases z
  hh := fun a o e p => y.hh a o (x.hh a o e p) p
  pen := y.pen
theorem PenOk.there {pn : Pn} {G H : Hp} {n : Nat} (h : PenOk pn G H n) {p : Addr} (e : IsPen pn p) : H p ≠ none := by
  obtain ⟨l, e⟩ := e
  obtain ⟨_, c, a, f, z, _⟩ := h p l e
  rw [z]
  intro q
  cases q
theorem Step.tr {pn : Pn} {G H G1 H1 G2 H2 : Hp} {n1 n2 : Nat} (x : Step pn G H G1 H1 n1) (y : Step pn G1 H1 G2 H2 n2) : Step pn G H G2 H2 n2 :=
  x.trans y fun _ e _ => x.pen.there e

/-- a slot of the pure frame: nothing, a shared value, an object of one's own -/
inductive Slot where
  | no | val (d : D) | own (d : D)
abbrev PEnv := List Slot

/-- what a body stands in -/
structure Bx where
  K : PySem.W.Frag
  mg : Str → Option Value
  pn : Pn
  G0 : Hp
  H0 : Hp
  ex : Addr → Prop

abbrev Bx.Rep (b : Bx) (G : Hp) := DL.Rep b.K b.mg b.pn G
abbrev Bx.RepL (b : Bx) (G : Hp) := DL.RepL b.K b.mg b.pn G
abbrev Bx.RepK (b : Bx) (G : Hp) := DL.RepK b.K b.mg b.pn G
abbrev Bx.RepF (b : Bx) (G : Hp) := DL.RepF b.K b.mg b.pn G

def OwnAt (b : Bx) (G H : Hp) (a : Addr) : D → Prop
  | .lst ds => ∃ vs, H a = some (.lst vs) ∧ b.RepL G vs ds
  | .dct kds => ∃ kvs, H a = some (.dK kvs) ∧ b.RepK G kvs kds
  | .ins c fs => b.ex a ∧ ∃ C dx vs, b.mg c = some (.ref C) ∧ H a = some (.ins C dx vs) ∧ b.RepF G vs fs
  | _ => False
theorem OwnAt.mono {b : Bx} {G G' H H' : Hp} {a : Addr} (e : Same G G') (h : ∀ o, H a = some o → H' a = some o) : ∀ {d : D}, OwnAt b G H a d → OwnAt b G' H' a d
  | .lst _, ⟨vs, x, r⟩ => ⟨vs, h _ x, r.mono e⟩
  | .dct _, ⟨vs, x, r⟩ => ⟨vs, h _ x, r.mono e⟩
  | .ins _ _, ⟨z, C, dx, vs, m, x, r⟩ => ⟨z, C, dx, vs, m, h _ x, r.mono e⟩
  | .non, h | .bl _, h | .int _, h | .str _, h | .tup _, h | .pen, h => h.elim
theorem OwnAt.some {b : Bx} {G H : Hp} {a : Addr} : ∀ {d : D}, OwnAt b G H a d → ∃ o, H a = some o
  | .lst _, ⟨vs, x, r⟩ => ⟨_, x⟩
  | .dct _, ⟨vs, x, r⟩ => ⟨_, x⟩
  | .ins _ _, ⟨_, C, dx, vs, m, x, r⟩ => ⟨_, x⟩
  | .non, h | .bl _, h | .int _, h | .str _, h | .tup _, h | .pen, h => h.elim

/-- the slot's value -/
def SlotOk (b : Bx) (G H : Hp) (x : Option (Option V)) : Slot → Prop
  | .no => True
  | .val d => ∃ v, x = some (some v) ∧ b.Rep G v d
  | .own d => ∃ a, x = some (some (.ref a)) ∧ G a = none ∧ ¬ IsPen b.pn a ∧ (b.H0 a = none ∨ b.ex a) ∧ OwnAt b G H a d

structure Good (b : Bx) (G H : Hp) (σ : St) (env : PEnv) (n : Nat) : Prop where
  le : Same G H
  base : Same b.G0 G
  fresh : ∀ a, b.G0 a = none → b.H0 a ≠ none → G a = none
  ext : ∀ a o, b.H0 a = some o → ¬ IsPen b.pn a → ¬ b.ex a → H a = some o
  pen : PenOk b.pn G H n
  len : env.length = σ.length
  slots : ∀ (i : Nat) (s : Slot), env[i]? = some s → SlotOk b G H σ[i]? s
  exn : ∀ a, b.ex a → G a = none ∧ (∃ C dx fs, H a = some (.ins C dx fs)) ∧ ¬ IsPen b.pn a
  sep : ∀ (i j : Nat) (d e : D) (a : Addr), env[i]? = some (Slot.own d) → env[j]? = some (Slot.own e) → σ[i]? = some (some (.ref a)) → σ[j]? = some (some (.ref a)) → i = j

theorem SlotOk.mono {b : Bx} {G G' H H' : Hp} {n' : Nat} (st : Step b.pn G H G' H' n') {x : Option (Option V)} : ∀ {s : Slot}, SlotOk b G H x s → SlotOk b G' H' x s
  | .no, _ => trivial
  | .val d, ⟨v, e, r⟩ => ⟨v, e, r.mono st.gg⟩
  | .own d, ⟨a, e, g, p, h0, o⟩ => ⟨a, e, st.fr a g (by obtain ⟨ob, z⟩ := o.some; rw [z]; intro q; cases q), p, h0, o.mono st.gg fun ob z => st.hh a ob z p⟩
theorem Good.step {b : Bx} {G H G' H' : Hp} {σ : St} {env : PEnv} {n n' : Nat} (g : Good b G H σ env n) (st : Step b.pn G H G' H' n') : Good b G' H' σ env n' where
  le := st.gh
  base := g.base.trans st.gg
  fresh := fun a h0 h1 => by
    refine st.fr a (g.fresh a h0 h1) ?_
    by_cases hp : IsPen b.pn a
    · exact g.pen.there hp
    · by_cases hx : b.ex a
      · obtain ⟨_, ⟨C, dx, fs, z⟩, _⟩ := g.exn a hx
        rw [z]; intro q; cases q
      · intro z
        cases e : b.H0 a with
        | none => exact h1 e
        | some o => rw [g.ext a o e hp hx] at z; cases z
  ext := fun a o e p x => st.hh a o (g.ext a o e p x) p
  pen := st.pen
  len := g.len
  slots := fun i s e => (g.slots i s e).mono st
  exn := fun a x => by
    obtain ⟨h1, ⟨C, dx, fs, h2⟩, h3⟩ := g.exn a x
    exact ⟨st.fr a h1 (by rw [h2]; intro q; cases q), ⟨C, dx, fs, st.hh a _ h2 h3⟩, h3⟩
  sep := g.sep

theorem Step.refl {pn : Pn} {G H : Hp} {n : Nat} (h : Same G H) (p : PenOk pn G H n) : Step pn G H G H n := ⟨Same.refl G, h, fun _ g _ => g, fun _ _ e _ => e, p⟩
theorem PenOk.less {pn : Pn} {G H : Hp} {n m : Nat} (h : PenOk pn G H n) (hm : m ≤ n) : PenOk pn G H m := fun p l e => by
  obtain ⟨g, c, a, f, z, z2, z3, z4, z5, z6⟩ := h p l e
  exact ⟨g, c, a, f, z, z2, z3, z4, by omega, z6⟩
theorem PenOk.ne {pn : Pn} {G H : Hp} {n : Nat} (h : PenOk pn G H n) {p : Addr} (e : H p = none) : ¬ IsPen pn p := fun z => h.there z e
theorem upd_at {H : Hp} {a b : Addr} {o : HO} : upd H a o b = if b = a then some o else H b := rfl
/-- a new object, shared -/
theorem Step.new {pn : Pn} {G H : Hp} {n : Nat} {p : Addr} {o : HO} (h : Same G H) (k : PenOk pn G H n) (hp : H p = none) : Step pn G H (upd G p o) (upd H p o) n where
  gg := fun a u e => by rw [upd_ne (ne_of_none e (h.free hp))]; exact e
  gh := fun a u e => by
    by_cases z : a = p
    · subst z; rw [upd_same] at e ⊢; exact e
    · rw [upd_ne z] at e ⊢; exact h _ _ e
  fr := fun a g x => by
    have z : a ≠ p := fun z => x (z ▸ hp)
    rw [upd_ne z]; exact g
  hh := fun a u e _ => by rw [upd_ne (ne_of_none e hp)]; exact e
  pen := fun q l e => by
    obtain ⟨g, c, a, f, z, z2, z3, z4, z5, z6⟩ := k q l e
    have n1 : q ≠ p := ne_of_none z hp
    have n2 : l ≠ p := ne_of_none (h _ _ z2) hp
    exact ⟨by rw [upd_ne n1]; exact g, c, a, f, by rw [upd_ne n1]; exact z, by rw [upd_ne n2]; exact z2, z3, z4, z5, z6⟩
/-- a new object, not shared yet -/
theorem Step.newU {pn : Pn} {G H : Hp} {n : Nat} {p : Addr} {o : HO} (h : Same G H) (k : PenOk pn G H n) (hp : H p = none) : Step pn G H G (upd H p o) n where
  gg := Same.refl G
  gh := fun a u e => by rw [upd_ne (ne_of_none (h _ _ e) hp)]; exact h _ _ e
  fr := fun a g x => g
  hh := fun a u e _ => by rw [upd_ne (ne_of_none e hp)]; exact e
  pen := fun q l e => by
    obtain ⟨g, c, a, f, z, z2, z3, z4, z5, z6⟩ := k q l e
    have n1 : q ≠ p := ne_of_none z hp
    exact ⟨g, c, a, f, by rw [upd_ne n1]; exact z, z2, z3, z4, z5, z6⟩

/-! ### readings -/
def PostD (b : Bx) (G H : Hp) (Q : VK) : D → Nat → Prop := fun d n' => ∀ v G' H', Step b.pn G H G' H' n' → b.Rep G' v d → Q v H'
def PostL (b : Bx) (G H : Hp) (Q : List V → Hp → Prop) : List D → Nat → Prop := fun d n' => ∀ v G' H', Step b.pn G H G' H' n' → b.RepL G' v d → Q v H'
def RaiseG (b : Bx) (W : XK) : Str → List (Str × D) → Nat → Prop := fun c fs n' => ∀ C dx vs G' H' σ' env', Good b G' H' σ' env' n' → b.mg c = some (.ref C) → G' dx = some (.xd vs) → b.RepF G' vs fs → W (.ref C) (some dx) H'
abbrev SE := PEnv → M D
abbrev SL := PEnv → M (List D)
def tD (b : Bx) (W : XK) (F : SE) : TE := fun σ H Q => ∃ G env n, Good b G H σ env n ∧ (F env).All (PostD b G H Q) (RaiseG b W) n
def tL (b : Bx) (W : XK) (F : SL) : TA := fun σ H Q => ∃ G env n, Good b G H σ env n ∧ (F env).All (PostL b G H Q) (RaiseG b W) n
inductive Fl where
  | nx | bk | ct | rt (d : D)
abbrev SS := PEnv → M (Fl × PEnv)
def PostS (b : Bx) (G : Hp) (D : Ends) : Fl × PEnv → Nat → Prop := fun r n' => ∀ G' H' σ', Same G G' → Good b G' H' σ' r.2 n' →
  match r.1 with
  | .nx => D.nx σ' H'
  | .bk => D.bk σ' H'
  | .ct => D.ct σ' H'
  | .rt d => ∀ v, b.Rep G' v d → D.rt v H'
def tS (b : Bx) (W : XK) (F : SS) : TS := fun D σ H => ∃ G env n, Good b G H σ env n ∧ (F env).All (PostS b G D) (RaiseG b W) n

section
variable {X : Cx} {b : Bx} {W : XK} {e a c : Expr} {F Fa Fb Fc : SE} {pos : Pos}
theorem _root_.L2.PE.imp {t t' : TE} (h : PE X e t) (hi : ∀ σ H Q, t' σ H Q → t σ H Q) : PE X e t' := ⟨fun pins s σ H Q I q => h.run pins s σ H Q I (hi _ _ _ q)⟩
theorem _root_.L2.PA.imp {es : List Expr} {t t' : TA} (h : PA X es t) (hi : ∀ σ H Q, t' σ H Q → t σ H Q) : PA X es t' := ⟨fun pos pins s σ H Q I q => h.run pos pins s σ H Q I (hi _ _ _ q)⟩
theorem _root_.L2.PS.imp {st : Stmt} {t t' : TS} (h : PS X st t) (hi : ∀ D σ H, t' D σ H → t D σ H) : PS X st t' := ⟨fun pins s σ H D I q => h.run pins s σ H D I (hi _ _ _ q)⟩
theorem _root_.L2.PSs.imp {st : List Stmt} {t t' : TS} (h : PSs X st t) (hi : ∀ D σ H, t' D σ H → t D σ H) : PSs X st t' := ⟨fun pins s σ H D I q => h.run pins s σ H D I (hi _ _ _ q)⟩
theorem _root_.L2.PT.imp {t t' : TT} (h : PT X e t) (hi : ∀ σ H Q, t' σ H Q → t σ H Q) : PT X e t' := ⟨fun pins s σ H Q I q => h.run pins s σ H Q I (hi _ _ _ q)⟩
theorem _root_.L2.PW.imp {t t' : TT} (h : PW X e t) (hi : ∀ σ H Q, t' σ H Q → t σ H Q) : PW X e t' := ⟨fun w pins s σ H Q I q => h.run w pins s σ H Q I (hi _ _ _ q)⟩
theorem _root_.L2.PI.imp {tg iter : Expr} {t t' : TI} (h : PI X tg iter t) (hi : ∀ σ H Q, t' σ H Q → t σ H Q) : PI X tg iter t' := ⟨fun pins s σ H Q I q => h.run pins s σ H Q I (hi _ _ _ q)⟩

/-- one reading behind another -/
theorem td_bind {β : Type} {f : D → M β} {P : β → Nat → Prop} {R : Str → List (Str × D) → Nat → Prop} {G H : Hp} {σ : L2.St} {env : PEnv} {n : Nat} {Q : VK} (g : Good b G H σ env n)
    (h : ((F env).bind f).All P (RaiseG b W) n) (k : ∀ v d G' H' n', Step b.pn G H G' H' n' → b.Rep G' v d → (f d).All P (RaiseG b W) n' → Good b G' H' σ env n' → Q v H') : tD b W F σ H Q :=
  ⟨G, env, n, g, M.all_mono (M.all_bind h) (fun d n' _ q v G' H' st r => k v d G' H' n' st r q (g.step st)) fun _ _ _ _ q => q⟩
theorem tl_bind {β : Type} {FL : SL} {f : List D → M β} {P : β → Nat → Prop} {R : Str → List (Str × D) → Nat → Prop} {G H : Hp} {σ : L2.St} {env : PEnv} {n : Nat} {Q : List V → Hp → Prop} (g : Good b G H σ env n)
    (h : ((FL env).bind f).All P (RaiseG b W) n) (k : ∀ v d G' H' n', Step b.pn G H G' H' n' → b.RepL G' v d → (f d).All P (RaiseG b W) n' → Good b G' H' σ env n' → Q v H') : tL b W FL σ H Q :=
  ⟨G, env, n, g, M.all_mono (M.all_bind h) (fun d n' _ q v G' H' st r => k v d G' H' n' st r q (g.step st)) fun _ _ _ _ q => q⟩

/-! ### names, constants -/
def varE (i : Nat) : SE := fun env => match env[i]? with
  | some (.val d) => .ret d
  | _ => .fail
theorem de_var {i : Nat} (h : PE X e (tVar i)) : PE X e (tD b W (varE i)) := h.imp fun σ H Q ⟨G, env, n, g, q⟩ => by
  unfold varE at q
  split at q
  · rename_i d hd
    obtain ⟨v, ev, r⟩ := g.slots i _ hd
    exact ⟨v, ev, q v G H (Step.refl g.le g.pen) r⟩
  · exact q.elim
def conE (d : D) : SE := fun _ => .ret d
def litD : V → D
  | .non => .non | .bl b => .bl b | .int i => .int i | .str x => .str x | _ => .non
def isLit : V → Bool
  | .non => true | .bl _ => true | .int _ => true | .str _ => true | _ => false
theorem rep_lit {G : Hp} : ∀ {v : V}, isLit v = true → b.Rep G v (litD v)
  | .non, _ => .non | .bl _, _ => .bl | .int _, _ => .int | .str _, _ => .str
  | .byt _, h | .flt _, h | .ref _, h | .ty _, h => by cases h
theorem de_con {v : V} (h : PE X e (tC v)) (hl : isLit v = true := by rfl) : PE X e (tD b W (conE (litD v))) := h.imp fun σ H Q ⟨G, env, n, g, q⟩ => q v G H (Step.refl g.le g.pen) (rep_lit hl)

/-! ### operations by values -/
def OpD (b : Bx) (r : R2) (f : D → D → Option D) : Prop := ∀ {G H : Hp} {n : Nat} {x y : V} {d e c : D} {Q : VK}, Same G H → PenOk b.pn G H n → b.Rep G x d → b.Rep G y e → f d e = some c →
  (∀ v G' H', Step b.pn G H G' H' n → b.Rep G' v c → Q v H') → r x y H Q
def opE (f : D → D → Option D) (Fa Fb : SE) : SE := fun env => (Fa env).bind fun x => (Fb env).bind fun y => .ofO (f x y)
theorem ofO_all {α : Type} {o : Option α} {P : α → Nat → Prop} {R : Str → List (Str × D) → Nat → Prop} {n : Nat} (h : (M.ofO o).All P R n) : ∃ a, o = some a ∧ P a n := by
  cases o with
  | none => exact h.elim
  | some a => exact ⟨a, rfl, h⟩
theorem top_use {r : R2} {f : D → D → Option D} (hf : OpD b r f) {σ : L2.St} {H : Hp} {Q : VK} (h : tD b W (opE f Fa Fb) σ H Q) : tOp r (tD b W Fa) (tD b W Fb) σ H Q := by
  obtain ⟨G, env, n, g, q⟩ := h
  refine td_bind (R := RaiseG b W) g q fun v d G1 H1 n1 s1 r1 q1 g1 => td_bind (R := RaiseG b W) g1 q1 fun u e G2 H2 n2 s2 r2 q2 g2 => ?_
  obtain ⟨c, ec, q3⟩ := ofO_all q2
  exact hf g2.le g2.pen (r1.mono s2.gg) r2 ec fun w G' H' s3 r3 => q3 w G' H' ((s1.tr s2).tr s3) r3
theorem de_op {op : Operator} {r : R2} {f : D → D → Option D} (ho : OpR X (binaryOp op) r) (hf : OpD b r f) (ha : PE X a (tD b W Fa)) (hb : PE X c (tD b W Fb)) : PE X (.BinOp a op c pos) (tD b W (opE f Fa Fb)) :=
  (pe_op ho ha hb).imp fun _ _ _ h => top_use hf h
theorem de_cmp {op : CmpOp} {r : R2} {f : D → D → Option D} (ho : OpR X (compareOp op) r) (hf : OpD b r f) (ha : PE X a (tD b W Fa)) (hb : PE X c (tD b W Fb)) (hm : behindInMarks op c = false := by first | exact nobehind _ (by decide) (by decide) | rfl) : PE X (.Compare a [op] [c] pos) (tD b W (opE f Fa Fb)) :=
  (pe_cmpR ho ha hb hm).imp fun _ _ _ h => top_use hf h
theorem OpR.or {f : Value → Value → Sem Value} {r r' : R2} (h : OpR X f r) (h' : OpR X f r') : OpR X f (fun x y H Q => r x y H Q ∨ r' x y H Q) := fun pins s σ H x y v u Q I rx ry q =>
  q.elim (h pins s σ H x y v u Q I rx ry) (h' pins s σ H x y v u Q I rx ry)
theorem OpD.orElse {r r' : R2} {f f' : D → D → Option D} (h : OpD b r f) (h' : OpD b r' f') : OpD b (fun x y H Q => r x y H Q ∨ r' x y H Q) (fun x y => (f x y).or (f' x y)) := fun {G H n x y d e c Q} a1 a2 a3 a4 a5 a6 => by
  replace a5 : (f d e).or (f' d e) = some c := a5
  cases z : f d e with
  | some c' =>
    rw [z] at a5
    cases (show some c' = some c from a5)
    exact .inl (h a1 a2 a3 a4 z a6)
  | none =>
    rw [z] at a5
    exact .inr (h' a1 a2 a3 a4 a5 a6)

/-! ### tests -/
abbrev ST := PEnv → M Bool
def PostT (b : Bx) (G H : Hp) (Q : Bool → Hp → Prop) : Bool → Nat → Prop := fun c n' => ∀ G' H', Step b.pn G H G' H' n' → Q c H'
def tT (b : Bx) (W : XK) (F : ST) : TT := fun σ H Q => ∃ G env n, Good b G H σ env n ∧ (F env).All (PostT b G H Q) (RaiseG b W) n
/-- a value that is a bool -/
def asB : D → Option Bool
  | .bl k => some k
  | _ => none
def boolT (F : SE) : ST := fun env => (F env).bind fun d => .ofO (asB d)
theorem tt_bind {β : Type} {FT : ST} {f : Bool → M β} {P : β → Nat → Prop} {G H : Hp} {σ : L2.St} {env : PEnv} {n : Nat} {Q : Bool → Hp → Prop} (g : Good b G H σ env n)
    (h : ((FT env).bind f).All P (RaiseG b W) n) (k : ∀ d G' H' n', Step b.pn G H G' H' n' → (f d).All P (RaiseG b W) n' → Good b G' H' σ env n' → Q d H') : tT b W FT σ H Q :=
  ⟨G, env, n, g, M.all_mono (M.all_bind h) (fun d n' _ q G' H' st => k d G' H' n' st q (g.step st)) fun _ _ _ _ q => q⟩
theorem dt_val (h : PE X e (tD b W F)) (he : ∀ whole, isTrue e X.env whole = (do let v ← whole; standAt e.pos; holding [v] (truthy v)) := by intro _; rfl) : PT X e (tT b W (boolT F)) :=
  (pt_val h he).imp fun σ H Q ⟨G, env, n, g, q⟩ => by
    refine td_bind (R := RaiseG b W) g q fun v d G1 H1 n1 s1 r1 q1 g1 => ?_
    obtain ⟨k, ek, q2⟩ := ofO_all q1
    cases d <;> simp [asB] at ek
    subst ek
    cases r1
    exact ⟨_, rfl, q2 _ _ s1⟩
def andT (A B : ST) : ST := fun env => (A env).bind fun x => if x = true then B env else .ret false
def orT (A B : ST) : ST := fun env => (A env).bind fun x => if x = true then .ret true else B env
def notT (A : ST) : ST := fun env => (A env).bind fun x => .ret (!x)
theorem and_use {A B : ST} {σ : L2.St} {H : Hp} {Q : Bool → Hp → Prop} (h : tT b W (andT A B) σ H Q) : tAnd (tT b W A) (tT b W B) σ H Q := by
  obtain ⟨G, env, n, g, q⟩ := h
  refine tt_bind g q fun x G1 H1 n1 s1 q1 g1 => ?_
  cases x with
  | true => exact ⟨G1, env, n1, g1, M.all_mono q1 (fun k n2 _ z G2 H2 s2 => z G2 H2 (s1.tr s2)) fun _ _ _ _ z => z⟩
  | false => exact q1 G1 H1 s1
theorem or_use {A B : ST} {σ : L2.St} {H : Hp} {Q : Bool → Hp → Prop} (h : tT b W (orT A B) σ H Q) : tOr (tT b W A) (tT b W B) σ H Q := by
  obtain ⟨G, env, n, g, q⟩ := h
  refine tt_bind g q fun x G1 H1 n1 s1 q1 g1 => ?_
  cases x with
  | false => exact ⟨G1, env, n1, g1, M.all_mono q1 (fun k n2 _ z G2 H2 s2 => z G2 H2 (s1.tr s2)) fun _ _ _ _ z => z⟩
  | true => exact q1 G1 H1 s1
theorem dw_and1 {A : ST} (h : PT X a (tT b W A)) : PW X (.BoolOp .And [a] pos) (tT b W A) := pw_and1 h
theorem dw_or1 {A : ST} (h : PT X a (tT b W A)) : PW X (.BoolOp .Or [a] pos) (tT b W A) := pw_or1 h
theorem dw_and {A B : ST} {rest : List Expr} (ha : PT X a (tT b W A)) (hb : PW X (.BoolOp .And (c :: rest) pos) (tT b W B)) : PW X (.BoolOp .And (a :: c :: rest) pos) (tT b W (andT A B)) := (pw_and ha hb).imp fun _ _ _ h => and_use h
theorem dw_or {A B : ST} {rest : List Expr} (ha : PT X a (tT b W A)) (hb : PW X (.BoolOp .Or (c :: rest) pos) (tT b W B)) : PW X (.BoolOp .Or (a :: c :: rest) pos) (tT b W (orT A B)) := (pw_or ha hb).imp fun _ _ _ h => or_use h
theorem dt_not {A : ST} (h : PT X a (tT b W A)) : PT X (.UnaryOp .Not a pos) (tT b W (notT A)) := (pt_not h).imp fun σ H Q ⟨G, env, n, g, q⟩ => tt_bind g q fun x G1 H1 n1 s1 q1 g1 => q1 G1 H1 s1
def ifE (T : ST) (Fa Fb : SE) : SE := fun env => (T env).bind fun x => if x = true then Fa env else Fb env
theorem de_if {T : ST} (hc : PT X e (tT b W T)) (ha : PE X a (tD b W Fa)) (hb : PE X c (tD b W Fb)) : PE X (.IfExp e a c pos) (tD b W (ifE T Fa Fb)) := (pe_ifExp hc ha hb).imp fun σ H Q ⟨G, env, n, g, q⟩ => tt_bind g q fun x G1 H1 n1 s1 q1 g1 => by
  cases x with
  | true => exact ⟨G1, env, n1, g1, M.all_mono q1 (fun k n2 _ z v G2 H2 s2 => z v G2 H2 (s1.tr s2)) fun _ _ _ _ z => z⟩
  | false => exact ⟨G1, env, n1, g1, M.all_mono q1 (fun k n2 _ z v G2 H2 s2 => z v G2 H2 (s1.tr s2)) fun _ _ _ _ z => z⟩
/-- and, or, not as values of bools -/
def andE (A B : SE) : SE := fun env => (A env).bind fun d => (M.ofO (asB d)).bind fun x => if x = true then B env else .ret (.bl false)
def orE (A B : SE) : SE := fun env => (A env).bind fun d => (M.ofO (asB d)).bind fun x => if x = true then .ret (.bl true) else B env
def notE (A : SE) : SE := fun env => (A env).bind fun d => (M.ofO (asB d)).bind fun x => .ret (.bl (!x))
theorem asB_some {d : D} {k : Bool} (h : asB d = some k) : d = .bl k := by cases d <;> simp [asB] at h; subst h; rfl
theorem de_one {op : BoolOp} (h : PE X a (tD b W F)) : PE X (.BoolOp op [a] pos) (tD b W F) := pe_one h
theorem de_and {rest : List Expr} (ha : PE X a (tD b W Fa)) (hb : PE X (.BoolOp .And (c :: rest) pos) (tD b W Fb)) : PE X (.BoolOp .And (a :: c :: rest) pos) (tD b W (andE Fa Fb)) := (pe_and ha hb).imp fun σ H Q ⟨G, env, n, g, q⟩ => by
  refine td_bind (R := RaiseG b W) g q fun v d G1 H1 n1 s1 r1 q1 g1 => ?_
  obtain ⟨k, ek, q2⟩ := ofO_all (M.all_bind q1)
  cases asB_some ek
  cases r1
  refine ⟨_, rfl, ?_⟩
  cases k with
  | true => exact ⟨G1, env, n1, g1, M.all_mono q2 (fun k n2 _ z v G2 H2 s2 => z v G2 H2 (s1.tr s2)) fun _ _ _ _ z => z⟩
  | false => exact q2 _ G1 H1 s1 .bl
theorem de_or {rest : List Expr} (ha : PE X a (tD b W Fa)) (hb : PE X (.BoolOp .Or (c :: rest) pos) (tD b W Fb)) : PE X (.BoolOp .Or (a :: c :: rest) pos) (tD b W (orE Fa Fb)) := (pe_or ha hb).imp fun σ H Q ⟨G, env, n, g, q⟩ => by
  refine td_bind (R := RaiseG b W) g q fun v d G1 H1 n1 s1 r1 q1 g1 => ?_
  obtain ⟨k, ek, q2⟩ := ofO_all (M.all_bind q1)
  cases asB_some ek
  cases r1
  refine ⟨_, rfl, ?_⟩
  cases k with
  | false => exact ⟨G1, env, n1, g1, M.all_mono q2 (fun k n2 _ z v G2 H2 s2 => z v G2 H2 (s1.tr s2)) fun _ _ _ _ z => z⟩
  | true => exact q2 _ G1 H1 s1 .bl
theorem de_not (ha : PE X a (tD b W Fa)) : PE X (.UnaryOp .Not a pos) (tD b W (notE Fa)) := (pe_not ha).imp fun σ H Q ⟨G, env, n, g, q⟩ => by
  refine td_bind (R := RaiseG b W) g q fun v d G1 H1 n1 s1 r1 q1 g1 => ?_
  obtain ⟨k, ek, q2⟩ := ofO_all (M.all_bind q1)
  cases asB_some ek
  cases r1
  exact ⟨_, rfl, q2 _ G1 H1 s1 .bl⟩

/-! ### lists of expressions -/
def nilL : SL := fun _ => .ret []
def consL (A : SE) (L : SL) : SL := fun env => (A env).bind fun d => (L env).bind fun ds => .ret (d :: ds)
theorem da_nil : PA X [] (tL b W nilL) := pa_nil.imp fun σ H Q ⟨G, env, n, g, q⟩ => q [] G H (Step.refl g.le g.pen) .nil
theorem da_cons {es : List Expr} {L : SL} (ha : PE X a (tD b W Fa)) (hl : PA X es (tL b W L)) (hs : starEach (a :: es) X.env = (false, eval a X.env) :: starEach es X.env := by rfl) : PA X (a :: es) (tL b W (consL Fa L)) := (pa_cons ha hl hs).imp fun σ H Q ⟨G, env, n, g, q⟩ =>
  td_bind (R := RaiseG b W) g q fun v d G1 H1 n1 s1 r1 q1 g1 => tl_bind (R := RaiseG b W) g1 q1 fun vs ds G2 H2 n2 s2 r2 q2 g2 => q2 _ G2 H2 (s1.tr s2) (.cons (r1.mono s2.gg) r2)

/-! ### displays -/
def sizeOk (ds : List D) : Bool := decide (ds.length ≤ 1000000)
theorem sizeOk_le {ds : List D} (h : sizeOk ds = true) : ds.length ≤ sizeLine := by
  have h := of_decide_eq_true h
  rw [sizeLine_eq]
  omega
def tupE (L : SL) : SE := fun env => (L env).bind fun ds => if sizeOk ds = true then .ret (.tup ds) else .fail
def lstE (L : SL) : SE := fun env => (L env).bind fun ds => if sizeOk ds = true then .ret (.lst ds) else .fail
theorem if_all {α : Type} {c : Bool} {x : M α} {P : α → Nat → Prop} {R : Str → List (Str × D) → Nat → Prop} {n : Nat} (h : (if c = true then x else .fail).All P R n) : c = true ∧ x.All P R n := by
  cases c with
  | true => exact ⟨rfl, h⟩
  | false => exact h.elim
theorem de_tup {es : List Expr} {L : SL} {x1} (h : PA X es (tL b W L)) : PE X (.Tuple es x1 pos) (tD b W (tupE L)) := (pe_tup h).imp fun σ H Q ⟨G, env, n, g, q⟩ =>
  tl_bind (R := RaiseG b W) g q fun vs ds G1 H1 n1 s1 r1 q1 g1 => by
    obtain ⟨hz, q2⟩ := if_all q1
    refine ⟨by rw [r1.length]; exact sizeOk_le hz, fun p hp => ?_⟩
    have s2 := Step.new (o := .tup vs) g1.le g1.pen hp
    exact q2 _ _ _ (s1.tr s2) (.tup (SqT.of upd_same) (r1.mono s2.gg))
theorem de_lst {es : List Expr} {L : SL} (h : PA X es (tL b W L)) : PE X (.List es pos) (tD b W (lstE L)) := (pe_lst h).imp fun σ H Q ⟨G, env, n, g, q⟩ =>
  tl_bind (R := RaiseG b W) g q fun vs ds G1 H1 n1 s1 r1 q1 g1 => by
    obtain ⟨hz, q2⟩ := if_all q1
    refine ⟨by rw [r1.length]; exact sizeOk_le hz, fun p hp => ?_⟩
    have s2 := Step.new (o := .lst vs) g1.le g1.pen hp
    exact q2 _ _ _ (s1.tr s2) (.lst upd_same (r1.mono s2.gg))

/-! ### calls of built-ins, by values -/
def CbD (b : Bx) (r : List V → Hp → VK → Prop) (f : List D → Option D) : Prop := ∀ {G H : Hp} {n : Nat} {xs : List V} {ds : List D} {c : D} {Q : VK}, Same G H → PenOk b.pn G H n → b.RepL G xs ds → f ds = some c →
  (∀ v G' H', Step b.pn G H G' H' n → b.Rep G' v c → Q v H') → r xs H Q
def cbE (f : List D → Option D) (L : SL) : SE := fun env => (L env).bind fun ds => .ofO (f ds)
theorem tcb_use {r : List V → Hp → VK → Prop} {f : List D → Option D} {L : SL} (hf : CbD b r f) {σ : L2.St} {H : Hp} {Q : VK} (h : tD b W (cbE f L) σ H Q) : tCB r (tL b W L) σ H Q := by
  obtain ⟨G, env, n, g, q⟩ := h
  refine tl_bind (R := RaiseG b W) g q fun vs ds G1 H1 n1 s1 r1 q1 g1 => ?_
  obtain ⟨c, ec, q2⟩ := ofO_all q1
  exact hf g1.le g1.pen r1 ec fun v G' H' s2 r2 => q2 v G' H' (s1.tr s2) r2
theorem de_blt {x : Str} {p : Pos} {es : List Expr} {L : SL} {id : String} {r : List V → Hp → VK → Prop} {f : List D → Option D} (hc : CallR X (.builtin id) r) (hf : CbD b r f) (hg : Gl X x) (hm : X.mg x = none) (hv : bootBuiltins x = some (.builtin id)) (ha : PA X (e :: es) (tL b W L))
    (hn : x ≠ "__name__" := by decide) (hdb : (x == ("__debug__" : Str)) = false := by decide) (he : starEach (e :: es) X.env = (false, eval e X.env) :: starEach es X.env := by rfl) (hpl : (backTo pos (starEach es X.env)).any (·.1) = false := by rfl) :
    PE X (.Call (.Name x p) (e :: es) [] pos) (tD b W (cbE f L)) := (pe_callB hc hg hm hv ha hn hdb he hpl).imp fun _ _ _ h => tcb_use hf h
theorem de_bty {x : Str} {p : Pos} {es : List Expr} {L : SL} {T : String} {r : List V → Hp → VK → Prop} {f : List D → Option D} (hc : CallR X (.type T) r) (hf : CbD b r f) (hg : Gl X x) (hm : X.mg x = none) (hv : bootBuiltins x = some (.type T)) (ha : PA X (e :: es) (tL b W L))
    (hn : x ≠ "__name__" := by decide) (hdb : (x == ("__debug__" : Str)) = false := by decide) (he : starEach (e :: es) X.env = (false, eval e X.env) :: starEach es X.env := by rfl) (hpl : (backTo pos (starEach es X.env)).any (·.1) = false := by rfl) :
    PE X (.Call (.Name x p) (e :: es) [] pos) (tD b W (cbE f L)) := (pe_callTy hc hg hm hv ha hn hdb he hpl).imp fun _ _ _ h => tcb_use hf h
end
end DL

set_option Elab.async false
set_option linter.all false
set_option maxRecDepth 100000
set_option maxHeartbeats 4000000
/-! The data layer: statements, loops, comprehensions. -/
namespace DL
open PySem PySem.Spec L2

section
variable {b : Bx} {G H : Hp} {σ : L2.St} {env : PEnv} {n : Nat}
theorem set_get? {α : Type} {l : List α} {i j : Nat} {x y : α} (h : (l.set i x)[j]? = some y) : (i = j ∧ y = x ∧ i < l.length) ∨ (i ≠ j ∧ l[j]? = some y) := by
  by_cases e : i = j
  · subst e
    by_cases z : i < l.length
    · rw [List.getElem?_set_self z] at h; exact .inl ⟨rfl, (Option.some.inj h).symm, z⟩
    · rw [List.getElem?_eq_none (by simpa using z)] at h; cases h
  · rw [List.getElem?_set_ne e] at h; exact .inr ⟨e, h⟩
/-- a slot gets a value -/
theorem Good.setVal (g : Good b G H σ env n) {i : Nat} {v : V} {d : D} (r : b.Rep G v d) : Good b G H (σ.set i (some v)) (env.set i (.val d)) n where
  le := g.le
  base := g.base
  fresh := g.fresh
  ext := g.ext
  pen := g.pen
  len := by simpa using g.len
  slots := fun j s e => by
    rcases set_get? e with ⟨e1, e2, e3⟩ | ⟨e1, e2⟩
    · subst e1 e2
      exact ⟨v, by rw [List.getElem?_set_self (by rw [← g.len]; exact e3)], r⟩
    · rw [List.getElem?_set_ne e1]; exact g.slots j s e2
  exn := g.exn
  sep := fun j k d' e' a h1 h2 h3 h4 => by
    rcases set_get? h1 with ⟨_, z, _⟩ | ⟨e1, h1⟩
    · cases z
    rcases set_get? h2 with ⟨_, z, _⟩ | ⟨e2, h2⟩
    · cases z
    rw [List.getElem?_set_ne e1] at h3
    rw [List.getElem?_set_ne e2] at h4
    exact g.sep j k d' e' a h1 h2 h3 h4
/-- a slot gets an object of one's own -/
theorem Good.setOwn (g : Good b G H σ env n) {i : Nat} {a : Addr} {d : D} (ga : G a = none) (pa : ¬ IsPen b.pn a) (h0 : b.H0 a = none ∨ b.ex a) (oa : OwnAt b G H a d) (ne : ∀ (j : Nat) (d : D), env[j]? = some (Slot.own d) → σ[j]? ≠ some (some (.ref a))) : Good b G H (σ.set i (some (.ref a))) (env.set i (.own d)) n where
  le := g.le
  base := g.base
  fresh := g.fresh
  ext := g.ext
  pen := g.pen
  len := by simpa using g.len
  slots := fun j s e => by
    rcases set_get? e with ⟨e1, e2, e3⟩ | ⟨e1, e2⟩
    · subst e1 e2
      exact ⟨a, by rw [List.getElem?_set_self (by rw [← g.len]; exact e3)], ga, pa, h0, oa⟩
    · rw [List.getElem?_set_ne e1]; exact g.slots j s e2
  exn := g.exn
  sep := fun j k d' e' c h1 h2 h3 h4 => by
    rcases set_get? h1 with ⟨i1, z1, l1⟩ | ⟨e1, h1⟩ <;> rcases set_get? h2 with ⟨i2, z2, l2⟩ | ⟨e2, h2⟩
    · omega
    · subst i1
      rw [List.getElem?_set_self (by rw [← g.len]; exact l1)] at h3
      cases h3
      rw [List.getElem?_set_ne e2] at h4
      exact absurd h4 (ne k e' h2)
    · subst i2
      rw [List.getElem?_set_self (by rw [← g.len]; exact l2)] at h4
      cases h4
      rw [List.getElem?_set_ne e1] at h3
      exact absurd h3 (ne j d' h1)
    · rw [List.getElem?_set_ne e1] at h3
      rw [List.getElem?_set_ne e2] at h4
      exact g.sep j k d' e' c h1 h2 h3 h4
theorem PenOk.upd_ne {pn : Pn} (h : PenOk pn G H n) {a : Addr} {o : HO} (ne : ¬ IsPen pn a) (ga : G a = none) : PenOk pn G (upd H a o) n := fun p l e => by
  obtain ⟨g, c, t, f, z, z2, z3⟩ := h p l e
  exact ⟨g, c, t, f, by rw [L2.upd_ne (show p ≠ a from fun q => ne ⟨l, by rw [← q]; exact e⟩)]; exact z, z2, z3⟩
/-- an object of one's own is changed -/
theorem Good.write (g : Good b G H σ env n) {i : Nat} {a : Addr} {o : HO} {d d' : D} (hi : env[i]? = some (Slot.own d)) (hσ : σ[i]? = some (some (.ref a))) (oa : OwnAt b G (upd H a o) a d') (hins : ∀ C dx fs, H a = some (.ins C dx fs) → ∃ C dx fs, o = .ins C dx fs) : Good b G (upd H a o) σ (env.set i (.own d')) n := by
  obtain ⟨a', ea, ga, pa, h0, _⟩ := g.slots i _ hi
  rw [hσ] at ea
  cases ea
  have gne : ∀ c u, G c = some u → c ≠ a := fun c u q z => by rw [z, ga] at q; cases q
  refine ⟨fun c u q => by rw [L2.upd_ne (gne c u q)]; exact g.le c u q, g.base, g.fresh, fun c u q p x => ?_, g.pen.upd_ne pa ga, by simpa using g.len, fun j s e => ?_, fun c x => ?_, fun j k d1 e1 c h1 h2 h3 h4 => ?_⟩
  · have : c ≠ a := fun z => by
      subst z
      rcases h0 with h0 | h0
      · rw [h0] at q; cases q
      · exact x h0
    rw [L2.upd_ne this]; exact g.ext c u q p x
  · rcases set_get? e with ⟨e1, e2, e3⟩ | ⟨e1, e2⟩
    · subst e1 e2
      exact ⟨a, hσ, ga, pa, h0, oa⟩
    · have q := g.slots j s e2
      cases s with
      | no => trivial
      | val d => exact q
      | own d0 =>
        obtain ⟨c, ec, gc, pc, h0c, oc⟩ := q
        have : c ≠ a := fun z => e1 (g.sep i j d d0 a hi e2 hσ (z ▸ ec))
        exact ⟨c, ec, gc, pc, h0c, oc.mono (Same.refl G) fun u q => by rw [L2.upd_ne this]; exact q⟩
  · obtain ⟨x1, x2, x3⟩ := g.exn c x
    refine ⟨x1, ?_, x3⟩
    by_cases z : c = a
    · subst z
      obtain ⟨C, dx, fs, x2⟩ := x2
      obtain ⟨C', dx', fs', rfl⟩ := hins C dx fs x2
      exact ⟨C', dx', fs', upd_same⟩
    · rw [L2.upd_ne z]; exact x2
  · have k1 : ∀ (j : Nat) (d1 : D), (env.set i (.own d'))[j]? = some (Slot.own d1) → ∃ d2, env[j]? = some (Slot.own d2) := fun j d1 h => by
      rcases set_get? h with ⟨e1, e2, e3⟩ | ⟨e1, e2⟩
      · subst e1; exact ⟨d, hi⟩
      · exact ⟨d1, e2⟩
    obtain ⟨d2, q2⟩ := k1 j d1 h1
    obtain ⟨d3, q3⟩ := k1 k e1 h2
    exact g.sep j k d2 d3 c q2 q3 h3 h4
/-- slots are forgotten -/
def wipeE (env : PEnv) : List Nat → PEnv
  | [] => env
  | v :: vs => (wipeE env vs).set v .no
theorem Good.drop1 (g : Good b G H σ env n) {i : Nat} : Good b G H (σ.set i none) (env.set i .no) n where
  le := g.le
  base := g.base
  fresh := g.fresh
  ext := g.ext
  pen := g.pen
  len := by simpa using g.len
  slots := fun j s e => by
    rcases set_get? e with ⟨e1, e2, e3⟩ | ⟨e1, e2⟩
    · subst e2; trivial
    · rw [List.getElem?_set_ne e1]; exact g.slots j s e2
  exn := g.exn
  sep := fun j k d' e' a h1 h2 h3 h4 => by
    rcases set_get? h1 with ⟨_, z, _⟩ | ⟨e1, h1⟩
    · cases z
    rcases set_get? h2 with ⟨_, z, _⟩ | ⟨e2, h2⟩
    · cases z
    rw [List.getElem?_set_ne e1] at h3
    rw [List.getElem?_set_ne e2] at h4
    exact g.sep j k d' e' a h1 h2 h3 h4
theorem Good.wipe (g : Good b G H σ env n) : ∀ vs : List Nat, Good b G H (L2.wipe σ vs) (wipeE env vs) n
  | [] => g
  | v :: vs => (g.wipe vs).drop1

/-! ### targets -/
abbrev TgS := D → PEnv → Option PEnv
/-- σ' is σ but at the places of ix -/
def Only (ix : List Nat) (σ σ' : L2.St) : Prop := σ'.length = σ.length ∧ ∀ j, j ∉ ix → σ'[j]? = σ[j]?
theorem Only.refl {ix : List Nat} : Only ix σ σ := ⟨rfl, fun _ _ => rfl⟩
theorem Only.trans {ix iy : List Nat} {σ1 σ2 : L2.St} (a : Only ix σ σ1) (c : Only iy σ1 σ2) : Only (ix ++ iy) σ σ2 := ⟨c.1.trans a.1, fun j hj => (c.2 j fun z => hj (List.mem_append_right _ z)).trans (a.2 j fun z => hj (List.mem_append_left _ z))⟩
theorem wipe_in {i : Nat} : ∀ {vs : List Nat}, i ∈ vs → i < σ.length → (L2.wipe σ vs)[i]? = some none
  | v :: vs, h, hl => by
    show ((L2.wipe σ vs).set v none)[i]? = some none
    by_cases e : v = i
    · subst e; rw [List.getElem?_set_self (by rw [wipe_length]; exact hl)]
    · rw [List.getElem?_set_ne e]
      exact wipe_in ((List.mem_cons.mp h).resolve_left fun z => e z.symm) hl
theorem Only.wipe {ix vs : List Nat} {σ' : L2.St} (o : Only ix σ σ') (h : ∀ i ∈ ix, i ∈ vs) : L2.wipe σ' vs = L2.wipe σ vs := by
  apply List.ext_getElem?
  intro i
  by_cases hv : i ∈ vs
  · by_cases hl : i < σ.length
    · rw [wipe_in hv hl, wipe_in hv (by rw [o.1]; exact hl)]
    · rw [List.getElem?_eq_none (by rw [wipe_length, o.1]; omega), List.getElem?_eq_none (by rw [wipe_length]; omega)]
  · rw [wipe_out hv, wipe_out hv]
    exact o.2 i fun z => hv (h i z)
def gT (b : Bx) (ix : List Nat) (F : TgS) : TG := fun v σ H Q => ∃ G env n d env', Good b G H σ env n ∧ b.Rep G v d ∧ F d env = some env' ∧ ∀ σ', Good b G H σ' env' n → Only ix σ σ' → Q σ' H
theorem _root_.L2.PG.imp {X : Cx} {tg : Expr} {t t' : TG} (h : PG X tg t) (hi : ∀ v σ H Q, t' v σ H Q → t v σ H Q) : PG X tg t' := ⟨fun pins s σ H v u Q I r q => h.run pins s σ H v u Q I r (hi _ _ _ _ q)⟩
theorem _root_.L2.PGs.imp {X : Cx} {tg : List Expr} {t t' : TGs} (h : PGs X tg t) (hi : ∀ v σ H Q, t' v σ H Q → t v σ H Q) : PGs X tg t' := ⟨fun pins s σ H v u Q I r q => h.run pins s σ H v u Q I r (hi _ _ _ _ q)⟩
def nameG (i : Nat) : TgS := fun d env => some (env.set i (.val d))
theorem dg_name {X : Cx} {i : Nat} {tg : Expr} (h : PG X tg (gName i)) : PG X tg (gT b [i] (nameG i)) := h.imp fun v σ H Q ⟨G, env, n, d, env', g, r, e, q⟩ => by
  cases e
  exact q _ (g.setVal r) ⟨by simp, fun j hj => List.getElem?_set_ne (fun z => hj (by simp [z]))⟩
abbrev TgL := List D → PEnv → Option PEnv
def gTs (b : Bx) (ix : List Nat) (F : TgL) : TGs := fun vs σ H Q => ∃ G env n ds env', Good b G H σ env n ∧ b.RepL G vs ds ∧ F ds env = some env' ∧ ∀ σ', Good b G H σ' env' n → Only ix σ σ' → Q σ' H
def nilG : TgL := fun ds env => match ds with
  | [] => some env
  | _ => none
def consG (A : TgS) (L : TgL) : TgL := fun ds env => match ds with
  | [] => none
  | d :: ds => (A d env).bind fun env' => L ds env'
theorem dgs_nil {X : Cx} : PGs X [] (gTs b [] nilG) := pgs_nil.imp fun vs σ H Q ⟨G, env, n, ds, env', g, r, e, q⟩ => by
  cases r with
  | nil => cases e; exact ⟨rfl, q _ g Only.refl⟩
  | cons r t => cases e
theorem dgs_cons {X : Cx} {e : Expr} {es : List Expr} {ix iy : List Nat} {A : TgS} {L : TgL} (h1 : PG X e (gT b ix A)) (h2 : PGs X es (gTs b iy L))
    (hs : (assignEach (e :: es) X.env).map (·.2) = assign e X.env :: (assignEach es X.env).map (·.2) := by rfl) : PGs X (e :: es) (gTs b (ix ++ iy) (consG A L)) := (pgs_cons h1 h2 hs).imp fun vs σ H Q ⟨G, env, n, ds, env', g, r, e, q⟩ => by
  cases r with
  | nil => cases e
  | cons r t =>
    obtain ⟨env1, e1, e2⟩ := Option.bind_eq_some_iff.mp e
    exact ⟨_, _, rfl, G, env, n, _, env1, g, r, e1, fun σ1 g1 o1 => ⟨G, env1, n, _, env', g1, t, e2, fun σ2 g2 o2 => q σ2 g2 (o1.trans o2)⟩⟩
def tupG (k : Nat) (L : TgL) : TgS := fun d env => match d with
  | .tup ds => if ds.length = k then L ds env else none
  | _ => none
theorem dg_tup {X : Cx} {es : List Expr} {k : Nat} {m : Nat} {pos : Pos} {ix : List Nat} {L : TgL} (hK : X.K = b.K) (hc : X.calm = true) (h : PGs X es (gTs b ix L))
    (hn : (assignEach es X.env).length = m := by rfl) (hst : (assignEach es X.env).findIdx? (·.1) = none := by rfl) : PG X (.Tuple es k pos) (gT b ix (tupG m L)) := (pg_tup hc h hn hst).imp fun v σ H Q ⟨G, env, n, d, env', g, r, e, q⟩ => by
  cases r with
  | @tup a vs ds hs hr =>
    have e : (if ds.length = m then L ds env else none) = some env' := e
    by_cases hl : ds.length = m
    · rw [if_pos hl] at e
      exact ⟨_, _, rfl, hK ▸ sqT_mono g.le hs, hr.length.trans hl, G, env, n, ds, env', g, hr, e, q⟩
    · rw [if_neg hl] at e; cases e
  | _ => cases e

/-! ### statements -/
variable {X : Cx} {W : XK} {e a c : Expr} {pos : Pos}
theorem PostS.imp {D : Ends} {G' : Hp} (s : Same G G') {r : Fl × PEnv} {k : Nat} (h : PostS b G D r k) : PostS b G' D r k := fun G2 H2 σ2 s2 g2 => h G2 H2 σ2 (s.trans s2) g2
def seqS (A B : SS) : SS := fun env => (A env).bind fun r => match r.1 with
  | .nx => B r.2
  | f => .ret (f, r.2)
def skipS : SS := fun env => .ret (.nx, env)
theorem dss_nil : PSs X [] (tS b W skipS) := pss_nil.imp fun D σ H ⟨G, env, n, g, q⟩ => q G H σ (Same.refl G) g
theorem ds_pass : PS X (.Pass pos) (tS b W skipS) := ps_pass.imp fun D σ H ⟨G, env, n, g, q⟩ => q G H σ (Same.refl G) g
theorem dss_one {st : Stmt} {A : SS} (h : PS X st (tS b W A)) : PSs X [st] (tS b W A) := pss_one h
theorem dss_cons {st : Stmt} {sts : List Stmt} {A B : SS} (h : PS X st (tS b W A)) (h2 : PSs X sts (tS b W B)) : PSs X (st :: sts) (tS b W (seqS A B)) := (pss_cons h h2).imp fun D σ H ⟨G, env, n, g, q⟩ => by
  refine ⟨G, env, n, g, M.all_mono (M.all_bind q) (fun r n' _ z G' H' σ' s' g' => ?_) fun _ _ _ _ q => q⟩
  obtain ⟨f, env'⟩ := r
  cases f with
  | nx => exact ⟨G', env', n', g', M.all_mono z (fun r k _ z => PostS.imp s' z) fun _ _ _ _ q => q⟩
  | bk => exact z G' H' σ' s' g'
  | ct => exact z G' H' σ' s' g'
  | rt d => exact z G' H' σ' s' g'
def brkS : SS := fun env => .ret (.bk, env)
def contS : SS := fun env => .ret (.ct, env)
theorem ds_break : PS X (.Break pos) (tS b W brkS) := ps_break.imp fun D σ H ⟨G, env, n, g, q⟩ => q G H σ (Same.refl G) g
theorem ds_cont : PS X (.Continue pos) (tS b W contS) := ps_continue.imp fun D σ H ⟨G, env, n, g, q⟩ => q G H σ (Same.refl G) g
def exprS (F : SE) : SS := fun env => (F env).bind fun _ => .ret (.nx, env)
theorem ds_expr {F : SE} (h : PE X e (tD b W F)) (hs : swapsWith e none pos.line X.env = pure false := by rfl) : PS X (.Expr e pos) (tS b W (exprS F)) := (ps_expr h hs).imp fun D σ H ⟨G, env, n, g, q⟩ =>
  td_bind (R := RaiseG b W) g q fun v d G1 H1 n1 s1 r1 q1 g1 => q1 G1 H1 σ s1.gg g1
def retS (F : SE) : SS := fun env => (F env).bind fun d => .ret (.rt d, env)
theorem ds_ret {F : SE} (h : PE X e (tD b W F)) : PS X (.Return (some e) pos) (tS b W (retS F)) := (ps_ret h).imp fun D σ H ⟨G, env, n, g, q⟩ =>
  td_bind (R := RaiseG b W) g q fun v d G1 H1 n1 s1 r1 q1 g1 => q1 G1 H1 σ s1.gg g1 v r1
theorem ds_retN : PS X (.Return none pos) (tS b W (retS (conE .non))) := ps_retN.imp fun D σ H ⟨G, env, n, g, q⟩ => q G H σ (Same.refl G) g .non .non
def ifS (T : ST) (A B : SS) : SS := fun env => (T env).bind fun x => if x = true then A env else B env
theorem ds_if {T : ST} {A B : SS} {p q : List Stmt} (hc : PT X c (tT b W T)) (ha : PSs X p (tS b W A)) (hb : PSs X q (tS b W B)) : PS X (.If c p q pos) (tS b W (ifS T A B)) := (ps_if hc ha hb).imp fun D σ H ⟨G, env, n, g, q⟩ =>
  tt_bind g q fun x G1 H1 n1 s1 q1 g1 => by
    cases x with
    | true => exact ⟨G1, env, n1, g1, M.all_mono q1 (fun r k _ z => PostS.imp s1.gg z) fun _ _ _ _ q => q⟩
    | false => exact ⟨G1, env, n1, g1, M.all_mono q1 (fun r k _ z => PostS.imp s1.gg z) fun _ _ _ _ q => q⟩
def asgS (A : TgS) (F : SE) : SS := fun env => (F env).bind fun d => (M.ofO (A d env)).bind fun env' => .ret (.nx, env')
theorem tasg_use {ix : List Nat} {A : TgS} {F : SE} {D : Ends} {σ : L2.St} {H : Hp} (h : tS b W (asgS A F) D σ H) : tAsg (tD b W F) (gT b ix A) D σ H := by
  obtain ⟨G, env, n, g, q⟩ := h
  refine td_bind (R := RaiseG b W) g q fun v d G1 H1 n1 s1 r1 q1 g1 => ?_
  obtain ⟨env', e1, q2⟩ := ofO_all (M.all_bind q1)
  exact ⟨G1, env, n1, d, env', g1, r1, e1, fun σ' g' _ => q2 G1 H1 σ' s1.gg g'⟩
theorem ds_asg {tg : Expr} {ix : List Nat} {A : TgS} {F : SE} (he : PE X e (tD b W F)) (hg : PG X tg (gT b ix A)) (hs : swapsWithSole [tg] e pos.line X.env = pure false := by rfl) (hw : swappedStores [tg] e X.env = pure none := by rfl)
    (h1 : (assignEach [tg] X.env).map (·.2) = [assign tg X.env] := by rfl) : PS X (.Assign [tg] e pos) (tS b W (asgS A F)) := (ps_asg he hg hs hw h1).imp fun _ _ _ h => tasg_use h
theorem ds_set {i : Nat} {x : Str} {F : SE} {pos' : Pos} (hN : X.N.Nodup) (hi : X.N[i]? = some x) (hx : Loc X.env.scope x) (he : PE X e (tD b W F)) (hs : swapsWith e (some (.Name x pos')) pos.line X.env = pure false := by rfl) (hf : X.fn x = true ∨ X.env.scope.names.lookup x = some .local := by first | exact .inl rfl | exact .inr rfl | assumption) :
    PS X (.Assign [.Name x pos'] e pos) (tS b W (asgS (nameG i) F)) := (ps_set hN hi hx he hs hf).imp fun D σ H ⟨G, env, n, g, q⟩ => by
  refine td_bind (R := RaiseG b W) g q fun v d G1 H1 n1 s1 r1 q1 g1 => ?_
  exact q1 G1 H1 _ s1.gg (g1.setVal r1)
end
end DL

set_option Elab.async false
set_option linter.all false
set_option maxRecDepth 100000
set_option maxHeartbeats 4000000
/-! The data layer: what is walked, loops, comprehensions, own objects. -/
namespace DL
open PySem PySem.Spec L2

/-- an iterator that gives the data xs -/
def WalkD (b : Bx) (J : It) (G' : Hp) (xs : List D) : Prop :=
  ∃ Y, Walk J xs.length (fun H => Same G' H) Y ∧ ∀ i H x H' G n d, Y i H x H' → Same G' G → Same G H → PenOk b.pn G H n → xs[i]? = some d → ∃ G3, Step b.pn G H G3 H' n ∧ b.Rep G3 x d
def PostI (b : Bx) (G H : Hp) (R : It → Hp → Prop) : List D → Nat → Prop := fun xs n' => ∀ J G' H', Step b.pn G H G' H' n' → WalkD b J G' xs → R J H'
def tI (b : Bx) (W : XK) (F : SL) : TI := fun σ H R => ∃ G env n, Good b G H σ env n ∧ (F env).All (PostI b G H R) (RaiseG b W) n

section
variable {X : Cx} {b : Bx} {W : XK} {e a c tg iter : Expr} {pos : Pos}
theorem walk_at {J : It} {G' : Hp} {vs : List V} {xs : List D} (w : Walk J vs.length (fun H => Same G' H) (YAt vs)) (r : b.RepL G' vs xs) : WalkD b J G' xs :=
  ⟨YAt vs, r.length ▸ w, fun i H x H' G n d ⟨e, hx⟩ s1 s2 p hd => by
    subst e
    obtain ⟨d', e', r'⟩ := r.get hx
    rw [hd] at e'
    cases e'
    exact ⟨G, Step.refl s2 p, r'.mono s1⟩⟩
/-- the items of a list or a tuple -/
def seqI (F : SE) : SL := fun env => (F env).bind fun d => match d with
  | .lst xs => .ret xs
  | .tup xs => .ret xs
  | _ => .fail
def lstI (F : SE) : SL := fun env => (F env).bind fun d => match d with
  | .lst xs => .ret xs
  | _ => .fail
def tupI (F : SE) : SL := fun env => (F env).bind fun d => match d with
  | .tup xs => .ret xs
  | _ => .fail
theorem di_list {F : SE} (hK : X.K = b.K) (h : PE X e (tD b W F)) : PI X tg e (tI b W (lstI F)) := (pi_list h).imp fun σ H R ⟨G, env, n, g, q⟩ => by
  refine td_bind (R := RaiseG b W) g q fun v d G1 H1 n1 s1 r1 q1 g1 => ?_
  cases r1 with
  | @lst l vs ds hl hr =>
    refine ⟨l, rfl, ⟨vs, SqL.of (g1.le _ _ hl)⟩, q1 _ G1 H1 s1 (walk_at (vs := vs) ?_ hr)⟩
    exact walk_list.mono (fun H hs => SqL.of (hs _ _ hl)) fun i H x H' _ _ y => y
  | _ => exact q1.elim
theorem di_tup {F : SE} (hK : X.K = b.K) (h : PE X e (tD b W F)) : PI X tg e (tI b W (tupI F)) := (pi_tup h).imp fun σ H R ⟨G, env, n, g, q⟩ => by
  refine td_bind (R := RaiseG b W) g q fun v d G1 H1 n1 s1 r1 q1 g1 => ?_
  cases r1 with
  | @tup l vs ds hl hr =>
    refine ⟨l, rfl, ⟨vs, hK ▸ sqT_mono g1.le hl⟩, q1 _ G1 H1 s1 (walk_at (vs := vs) ?_ hr)⟩
    exact walk_tup.mono (fun H hs => hK ▸ sqT_mono hs hl) fun i H x H' _ _ y => y
  | _ => exact q1.elim
/-- a list or a tuple, whichever comes -/
theorem pi_seq {l : Expr} {tl : TE} (hl : PE X l tl) : PI X tg l (fun σ H R => tl σ H fun x H1 => ∃ a, x = .ref a ∧ (((∃ xs, SqL X.K H1 a xs) ∧ R (Itl X.K a) H1) ∨ ((∃ xs, SqT X.K H1 a xs) ∧ R (Itt X.K a) H1))) := by
  refine ⟨fun pins s σ H R I h => ?_⟩
  refine thn (hl.run pins s σ H _ I h) fun v s1 ⟨x, H1, I1, r, a, ex, q⟩ => ?_
  subst ex
  obtain rfl : v = Value.ref a := r
  rcases q with ⟨hx, q⟩ | ⟨hx, q⟩
  · obtain ⟨xs, hq⟩ := hx
    obtain ⟨its, rv, p, hz⟩ := I1.list hq
    refine wpAny_pyIter_list p.isList ?_
    refine ⟨s1.heap.objs.size, [s1.heap.objs.size], _, _, H1, rfl, I1.kept (t' := s1.toks) fun b o e => Heap.get?_push_of_some _ e, turn_list a _, ⟨_, Heap.get?_push_size _ rfl, rfl, rfl⟩, fun b hb => ?_, q⟩
    have e : b = s1.heap.objs.size := by simpa using hb
    subst e
    exact I1.fpOk (Nat.le_refl _) (I1.hok.fresh (Nat.le_refl _))
  · obtain ⟨xs, hq⟩ := hx
    obtain ⟨its, rv, p, hz⟩ := I1.tuple hq
    refine wpAny_pyIter_tuple (show s1.heap.IsTuple a its.toArray from p) ?_
    refine ⟨s1.heap.objs.size, [s1.heap.objs.size], _, _, H1, rfl, I1.kept (t' := s1.toks) fun b o e => Heap.get?_push_of_some _ e, turn_tuple a _, ⟨_, Heap.get?_push_size _ rfl, rfl, rfl⟩, fun b hb => ?_, q⟩
    have e : b = s1.heap.objs.size := by simpa using hb
    subst e
    exact I1.fpOk (Nat.le_refl _) (I1.hok.fresh (Nat.le_refl _))
theorem di_seq {F : SE} (hK : X.K = b.K) (h : PE X e (tD b W F)) : PI X tg e (tI b W (seqI F)) := (pi_seq h).imp fun σ H R ⟨G, env, n, g, q⟩ => by
  refine td_bind (R := RaiseG b W) g q fun v d G1 H1 n1 s1 r1 q1 g1 => ?_
  cases r1 with
  | @lst l vs ds hl hr =>
    refine ⟨l, rfl, .inl ⟨⟨vs, SqL.of (g1.le _ _ hl)⟩, q1 _ G1 H1 s1 (walk_at (vs := vs) ?_ hr)⟩⟩
    exact walk_list.mono (fun H hs => SqL.of (hs _ _ hl)) fun i H x H' _ _ y => y
  | @tup l vs ds hl hr =>
    refine ⟨l, rfl, .inr ⟨⟨vs, hK ▸ sqT_mono g1.le hl⟩, q1 _ G1 H1 s1 (walk_at (vs := vs) ?_ hr)⟩⟩
    exact walk_tup.mono (fun H hs => hK ▸ sqT_mono hs hl) fun i H x H' _ _ y => y
  | _ => exact q1.elim
theorem int_items {lo : Int} {k : Nat} {G' : Hp} : WalkD b (Itr lo k) G' ((List.range k).map fun i => D.int (lo + (i : Nat))) := by
  refine ⟨YFn fun i => .int (lo + i), ?_, fun i H x H' G n d ⟨e1, e2⟩ s1 s2 p hd => ?_⟩
  · have := (walk_range (lo := lo) (n := k)).mono (G' := fun H => Same G' H) (Y' := YFn fun i => .int (lo + i)) (fun _ _ => trivial) fun i H x H' _ _ y => y
    simpa using this
  · subst e1 e2
    simp [List.getElem?_map] at hd
    obtain ⟨j, hj, e⟩ := hd
    rw [List.getElem?_range] at hj
    · cases hj; subst e; exact ⟨G, Step.refl s2 p, .int⟩
    · rcases Nat.lt_or_ge i k with z | z
      · exact z
      · rw [List.getElem?_eq_none (by simpa using z)] at hj; cases hj
def small62 (i : Int) : Bool := decide (-(2 ^ 62) ≤ i) && decide (i < 2 ^ 62)
theorem small62_of {i : Int} (h : small62 i = true) : -(2 ^ 62) ≤ i ∧ i < 2 ^ 62 := by
  unfold small62 at h
  rw [Bool.and_eq_true] at h
  exact ⟨of_decide_eq_true h.1, of_decide_eq_true h.2⟩
def rng1I (L : SL) : SL := fun env => (L env).bind fun ds => match ds with
  | [.int j] => if small62 j = true then .ret ((List.range j.toNat).map fun i => D.int (0 + (i : Nat))) else .fail
  | _ => .fail
def rng2I (L : SL) : SL := fun env => (L env).bind fun ds => match ds with
  | [.int i, .int j] => if (small62 i && small62 j) = true then .ret ((List.range (j - i).toNat).map fun k => D.int (i + (k : Nat))) else .fail
  | _ => .fail
theorem di_range1 {L : SL} {p : Pos} (hg : Gl X "range") (hm : X.mg "range" = none) (ha : PA X [a] (tL b W L)) (hs : starEach [a] X.env = [(false, eval a X.env)] := by rfl) : PI X tg (.Call (.Name "range" p) [a] [] pos) (tI b W (rng1I L)) := (pi_range1 hg hm ha hs).imp fun σ H R ⟨G, env, n, g, q⟩ => by
  refine tl_bind (R := RaiseG b W) g q fun vs ds G1 H1 n1 s1 r1 q1 g1 => ?_
  split at q1
  · rename_i j
    obtain ⟨z, q2⟩ := if_all q1
    cases r1 with | cons r t => cases r; cases t; exact ⟨j, rfl, (small62_of z).1, (small62_of z).2, q2 _ G1 H1 s1 int_items⟩
  · exact q1.elim
theorem di_range2 {L : SL} {p : Pos} (hg : Gl X "range") (hm : X.mg "range" = none) (ha : PA X [a, c] (tL b W L)) (hs : starEach [a, c] X.env = [(false, eval a X.env), (false, eval c X.env)] := by rfl) (hs2 : starEach [c] X.env = [(false, eval c X.env)] := by rfl) :
    PI X tg (.Call (.Name "range" p) [a, c] [] pos) (tI b W (rng2I L)) := (pi_range2 hg hm ha hs hs2).imp fun σ H R ⟨G, env, n, g, q⟩ => by
  refine tl_bind (R := RaiseG b W) g q fun vs ds G1 H1 n1 s1 r1 q1 g1 => ?_
  split at q1
  · rename_i i j
    obtain ⟨z, q2⟩ := if_all q1
    rw [Bool.and_eq_true] at z
    cases r1 with | cons r t => cases r; cases t with | cons r t => cases r; cases t; exact ⟨i, j, rfl, ⟨(small62_of z.1).1, (small62_of z.1).2, (small62_of z.2).1, (small62_of z.2).2⟩, q2 _ G1 H1 s1 int_items⟩
  · exact q1.elim
/-- the signs of a text -/
def signs (x : Str) : List D := x.cps.toList.map fun c => D.str ⟨#[c]⟩
def strI (F : SE) : SL := fun env => (F env).bind fun d => match d with
  | .str x => .ret (signs x)
  | _ => .fail
theorem di_str {F : SE} (h : PE X e (tD b W F)) : PI X tg e (tI b W (strI F)) := (pi_str h).imp fun σ H R ⟨G, env, n, g, q⟩ => by
  refine td_bind (R := RaiseG b W) g q fun v d G1 H1 n1 s1 r1 q1 g1 => ?_
  cases r1 with
  | @str x =>
    refine ⟨x, rfl, q1 _ G1 H1 s1 ⟨_, walk_str.mono (G' := fun H => Same G1 H) (fun _ _ => trivial) (fun i H x H' _ _ y => y) |> fun w => (by simpa [signs] using w), fun i H x' H' G n d y s1 s2 p hd => ?_⟩⟩
    obtain ⟨e1, ch, ec, ex⟩ := y
    subst e1 ex
    have : (signs x)[i]? = some (D.str ⟨#[ch]⟩) := by
      unfold signs
      rw [List.getElem?_map, Array.getElem?_toList, ec]
      rfl
    rw [hd] at this
    cases this
    exact ⟨G, Step.refl s2 p, .str⟩
  | _ => exact q1.elim
/-- the keys of a (locked) dict -/
def keyD : Key → D
  | .inl i => .int i
  | .inr x => .str x
theorem rep_key {G : Hp} : ∀ {k : Key}, b.Rep G (kV k) (keyD k)
  | .inl _ => .int
  | .inr _ => .str
theorem RepK.length {K : PySem.W.Frag} {mg : Str → Option Value} {pn : Pn} {G : Hp} : ∀ {vs : List (Key × V)} {ds : List (Key × D)}, DL.RepK K mg pn G vs ds → vs.length = ds.length
  | _, _, .nil => rfl
  | _, _, .cons _ t => congrArg (· + 1) (RepK.length t)
theorem RepK.get {K : PySem.W.Frag} {mg : Str → Option Value} {pn : Pn} {G : Hp} : ∀ {vs : List (Key × V)} {ds : List (Key × D)} {i : Nat} {k : Key} {v : V}, DL.RepK K mg pn G vs ds → vs[i]? = some (k, v) → ∃ d, ds[i]? = some (k, d) ∧ DL.Rep K mg pn G v d
  | _, _, _, _, _, .nil, e => by simp at e
  | _, _, 0, _, _, .cons r _, e => by simp at e; obtain ⟨rfl, rfl⟩ := e; exact ⟨_, rfl, r⟩
  | _, _, i + 1, k, v, .cons _ t, e => by
    obtain ⟨u, h1, h2⟩ := RepK.get (i := i) (v := v) t (by simpa using e)
    exact ⟨u, by simpa using h1, h2⟩
def keysI (F : SE) : SL := fun env => (F env).bind fun d => match d with
  | .dct kvs => .ret (kvs.map fun kv => keyD kv.1)
  | _ => .fail
theorem di_keys {F : SE} (h : PE X e (tD b W F)) : PI X tg e (tI b W (keysI F)) := (pi_keys h).imp fun σ H R ⟨G, env, n, g, q⟩ => by
  refine td_bind (R := RaiseG b W) g q fun v d G1 H1 n1 s1 r1 q1 g1 => ?_
  cases r1 with
  | @dct l o kvs kds hl hr =>
    refine ⟨l, o, rfl, .inl ⟨kvs, g1.le _ _ hl, q1 _ G1 H1 s1 ⟨fun i H x H' => H' = H ∧ ∃ k v, kvs[i]? = some (k, v) ∧ x = kV k, walk_keys.mono (G' := fun H => Same G1 H) (fun H hs => hs _ _ hl) (fun i H x H' _ _ y => y) |> fun w => (by simpa [← hr.length] using w), fun i H x' H' G n d y s1 s2 p hd => ?_⟩⟩⟩
    obtain ⟨e1, k, v', ek, rfl⟩ := y
    subst e1
    obtain ⟨d', ed, _⟩ := hr.get ek
    rw [List.getElem?_map, ed] at hd
    cases hd
    exact ⟨G, Step.refl s2 p, rep_key⟩
  | _ => exact q1.elim

/-! ### for -/
def forLoop (tg : TgS) (body : SS) : List D → PEnv → M (Fl × PEnv)
  | [], env => .ret (.nx, env)
  | x :: xs, env => (M.ofO (tg x env)).bind fun env1 => (body env1).bind fun r => match r.1 with
    | .nx => forLoop tg body xs r.2
    | .ct => forLoop tg body xs r.2
    | .bk => .ret (.nx, r.2)
    | .rt d => .ret (.rt d, r.2)
def forS (it : SL) (tg : TgS) (body : SS) : SS := fun env => (it env).bind fun xs => forLoop tg body xs env
theorem ds_for {body : List Stmt} {it : SL} {A : TgS} {ix : List Nat} {B : SS} (hp : PassesOwn (model X.prog X.w) X.A X.env X.xe) (hc : X.calm = true) (hi : PI X tg iter (tI b W it)) (hg : PG X tg (gT b ix A)) (hb : PSs X body (tS b W B))
    (hs : ∀ x, foldedSetIterable iter X.env x = pure x := by intro _; rfl) : PS X (.For tg iter body [] pos) (tS b W (forS it A B)) := (ps_for hp hc hi hg hb hs).imp fun D σ H ⟨G, env, n, g, q⟩ => by
  refine ⟨G, env, n, g, M.all_mono (M.all_bind q) (fun xs n' _ z J G1 H1 s1 w => ?_) fun _ _ _ _ q => q⟩
  obtain ⟨Y, wk, hy⟩ := w
  refine for_it wk (fun i σ H => ∃ G2 env2 n2, Good b G2 H σ env2 n2 ∧ Same G1 G2 ∧ (forLoop A B (xs.drop i) env2).All (PostS b G2 D) (RaiseG b W) n2)
    ⟨G1, env, n', g.step s1, Same.refl G1, M.all_mono z (fun r k _ z => PostS.imp s1.gg z) fun _ _ _ _ q => q⟩ (fun i σ H _ ⟨G2, env2, n2, g2, s2, _⟩ => s2.trans g2.le) ?_ ?_
  · rintro i x σ2 H2 H3 hi ⟨G2, env2, n2, g2, s2, q2⟩ hyx
    obtain ⟨d, ed⟩ : ∃ d, xs[i]? = some d := ⟨xs[i], by simp [hi]⟩
    obtain ⟨G3, s3, r3⟩ := hy i H2 x H3 G2 n2 d hyx s2 g2.le g2.pen ed
    have hdr : xs.drop i = d :: xs.drop (i + 1) := by
      rw [List.getElem?_eq_some_iff] at ed
      obtain ⟨h1, h2⟩ := ed
      rw [← h2]
      exact List.drop_eq_getElem_cons h1
    rw [hdr] at q2
    obtain ⟨env3, e3, q3⟩ := ofO_all (M.all_bind q2)
    refine ⟨G3, env2, n2, d, env3, g2.step s3, r3, e3, fun σ4 g4 _ => ⟨G3, env3, n2, g4, M.all_mono (M.all_bind q3) (fun r n5 _ z5 G5 H5 σ5 s5 g5 => ?_) fun _ _ _ _ q => q⟩⟩
    obtain ⟨f, env5⟩ := r
    have s25 : Same G2 G5 := s3.gg.trans s5
    cases f with
    | nx => exact ⟨G5, env5, n5, g5, s2.trans s25, M.all_mono z5 (fun r k _ z => PostS.imp s25 z) fun _ _ _ _ q => q⟩
    | ct => exact ⟨G5, env5, n5, g5, s2.trans s25, M.all_mono z5 (fun r k _ z => PostS.imp s25 z) fun _ _ _ _ q => q⟩
    | bk => exact z5 G5 H5 σ5 s25 g5
    | rt d => exact z5 G5 H5 σ5 s25 g5
  · rintro σ2 H2 ⟨G2, env2, n2, g2, s2, q2⟩
    rw [List.drop_length] at q2
    exact q2 G2 H2 σ2 (Same.refl G2) g2
end
end DL

set_option Elab.async false
set_option linter.all false
set_option maxRecDepth 100000
set_option maxHeartbeats 4000000
/-! The data layer: comprehensions, fresh values, own objects. -/
namespace DL
open PySem PySem.Spec L2

/-- a value that nobody else holds -/
def PostF (b : Bx) (G H : Hp) (Q : VK) : D → Nat → Prop := fun d n' => ∀ a G' H', Step b.pn G H G' H' n' → H a = none → G' a = none → OwnAt b G' H' a d → Q (.ref a) H'
def tF (b : Bx) (W : XK) (F : SE) : TE := fun σ H Q => ∃ G env n, Good b G H σ env n ∧ (F env).All (PostF b G H Q) (RaiseG b W) n

section
variable {X : Cx} {b : Bx} {W : XK} {e a c tg iter : Expr} {pos : Pos}
theorem Step.put {pn : Pn} {G H G' H' : Hp} {n : Nat} {p : Addr} {o : HO} (s : Step pn G H G' H' n) (hp : H p = none) (gp : G' p = none) (ne : ¬ IsPen pn p) : Step pn G H G' (upd H' p o) n where
  gg := s.gg
  gh := fun a u e => by rw [upd_ne (ne_of_none e gp)]; exact s.gh _ _ e
  fr := s.fr
  hh := fun a u e q => by rw [upd_ne (ne_of_none e hp)]; exact s.hh _ _ e q
  pen := s.pen.upd_ne ne gp
/-- it is shared from now on -/
theorem Step.freeze {pn : Pn} {G H : Hp} {n : Nat} {p : Addr} {o : HO} (h : Same G H) (k : PenOk pn G H n) (gp : G p = none) (hp : H p = some o) (ne : ¬ IsPen pn p) : Same G (upd G p o) ∧ Same (upd G p o) H ∧ PenOk pn (upd G p o) H n := by
  refine ⟨fun a u e => by rw [upd_ne (ne_of_none e gp)]; exact e, fun a u e => ?_, fun q l e => ?_⟩
  · by_cases z : a = p
    · subst z; rw [upd_same] at e; cases e; exact hp
    · rw [upd_ne z] at e; exact h _ _ e
  · obtain ⟨g, c, t, f, z, z2, z3⟩ := k q l e
    have n2 : l ≠ p := ne_of_none z2 gp
    exact ⟨by rw [upd_ne (show q ≠ p from fun w => ne ⟨l, by rw [← w]; exact e⟩)]; exact g, c, t, f, z, by rw [upd_ne n2]; exact z2, z3⟩
/-- within a comprehension nothing may be raised -/
def _root_.DL.M.nor {α : Type} : M α → M α
  | .ret a => .ret a
  | .draw n k => .draw n fun i => (k i).nor
  | .raise _ _ => .fail
  | .fail => .fail
theorem nor_all {α : Type} {P : α → Nat → Prop} {R R' : Str → List (Str × D) → Nat → Prop} : ∀ {m : M α} {n : Nat}, m.nor.All P R n → m.All P R' n
  | .ret _, _, h => h
  | .draw _ k, _, ⟨n', e, h⟩ => ⟨n', e, fun i hi => nor_all (m := k i) (h i hi)⟩
  | .raise _ _, _, h => h.elim
  | .fail, _, h => h
/-! ### comprehensions -/
def lcLoop (tg : TgS) (ifs : ST) (elt : SE) (env : PEnv) : List D → M (List D)
  | [] => .ret []
  | x :: xs => (M.ofO (tg x env)).bind fun env1 => (ifs env1).bind fun k => if k = true then (elt env1).bind fun y => (lcLoop tg ifs elt env xs).bind fun ys => .ret (y :: ys) else lcLoop tg ifs elt env xs
def yesT : ST := fun _ => .ret true
def lcL (own : List Nat) (it : SL) (tg : TgS) (ifs : ST) (elt : SE) : SL := fun env => (it env).bind fun xs => if sizeOk xs = true then (lcLoop tg ifs elt (wipeE env own) xs).nor else .fail
def lcE (own : List Nat) (it : SL) (tg : TgS) (ifs : ST) (elt : SE) : SE := fun env => (lcL own it tg ifs elt env).bind fun ys => .ret (.lst ys)
def tTs (b : Bx) (W : XK) (F : ST) : TT := tT b W F
theorem _root_.L2.PTs.imp {ifs : List Expr} {t t' : TT} (h : PTs X ifs t) (hi : ∀ σ H Q, t' σ H Q → t σ H Q) : PTs X ifs t' := ⟨fun pins s σ H Q I q => h.run pins s σ H Q I (hi _ _ _ q)⟩
theorem dts_nil : PTs X [] (tT b W yesT) := pts_nil.imp fun σ H Q ⟨G, env, n, g, q⟩ => q G H (Step.refl g.le g.pen)
theorem dts_one {T : ST} (h : PT X c (tT b W T)) : PTs X [c] (tT b W T) := pts_one h
abbrev W0 : XK := fun _ _ _ => False


theorem lc_use {own : List Nat} {it : SL} {A : TgS} {ix : List Nat} {T : ST} {E : SE} {wi : TI} (hwi : wi = tI b W it) (hix : ∀ i ∈ ix, i ∈ own) {σ : L2.St} {H : Hp} {Q : VK}
    (h : ∃ G env n, Good b G H σ env n ∧ (lcL own it A T E env).All (fun ys n' => ∀ a vs G' H', Step b.pn G H G' H' n' → H a = none → G' a = none → H' a = some (.lst vs) → b.RepL G' vs ys → Q (.ref a) H') (RaiseG b W) n) :
    tLc wi (gT b ix A) (tT b W0 T) (tD b W0 E) own σ H Q := by
  subst hwi
  obtain ⟨G, env, n, g, q⟩ := h
  refine ⟨G, env, n, g, M.all_mono (M.all_bind q) (fun xs n1 _ z J G1 H1 s1 w => ?_) fun _ _ _ _ q => q⟩
  obtain ⟨hz, z2⟩ := if_all z
  obtain ⟨Y, wk, hy⟩ := w
  intro D hD
  have hD0 : H D = none := by
    cases e : H D with
    | none => rfl
    | some o =>
      by_cases hp : IsPen b.pn D
      · exact absurd hD (s1.pen.there hp)
      · rw [s1.hh D o e hp] at hD; cases hD
  have gD : G1 D = none := s1.gh.free hD
  have pD : ¬ IsPen b.pn D := fun z => s1.pen.there z hD
  have g1 := g.step s1
  refine lc_it wk (fun i H2 => ∃ G2 n2 acc yac, Step b.pn G1 H1 G2 H2 n2 ∧ H2 D = some (.lst acc) ∧ G2 D = none ∧ b.RepL G2 acc yac ∧ acc.length ≤ i ∧
      (lcLoop A T E (wipeE env own) (xs.drop i)).All (fun ys n' => ∀ a vs G' H', Step b.pn G H G' H' n' → H a = none → G' a = none → H' a = some (.lst vs) → b.RepL G' vs (yac ++ ys) → Q (.ref a) H') (RaiseG b W0) n2)
    ⟨G1, n1, [], [], Step.newU s1.gh s1.pen hD, upd_same, gD, .nil, Nat.le_refl _, nor_all z2⟩ (fun i H2 _ ⟨G2, n2, _, _, s2, _⟩ => s2.gg.trans s2.gh) ?_ ?_
  · rintro i x H2 H3 hi ⟨G2, n2, acc, yac, s2, hacc, g2D, ra, hl, q2⟩ hyx
    obtain ⟨d, ed⟩ : ∃ d, xs[i]? = some d := ⟨xs[i], by simp [hi]⟩
    obtain ⟨G3, s3, r3⟩ := hy i H2 x H3 G2 n2 d hyx s2.gg s2.gh s2.pen ed
    have hdr : xs.drop i = d :: xs.drop (i + 1) := by
      rw [List.getElem?_eq_some_iff] at ed
      obtain ⟨h1, h2⟩ := ed
      rw [← h2]
      exact List.drop_eq_getElem_cons h1
    rw [hdr] at q2
    obtain ⟨env3, e3, q3⟩ := ofO_all (M.all_bind q2)
    have hD3 : H3 D = some (.lst acc) := s3.hh D _ hacc pD
    have g3D : G3 D = none := s3.fr D g2D (by rw [hacc]; intro z; cases z)
    refine ⟨G3, wipeE env own, n2, d, env3, ((g1.step s2).step s3).wipe own, r3, e3, fun σ4 g4 o4 => ⟨?_, G3, env3, n2, g4, M.all_mono (M.all_bind q3) (fun k n4 _ z4 G4 H4 s4 => ?_) fun _ _ _ _ q => q⟩⟩
    · rw [o4.wipe hix]
      apply List.ext_getElem?
      intro j
      by_cases hv : j ∈ own
      · by_cases hlt : j < σ.length
        · rw [wipe_in hv (by rw [wipe_length]; exact hlt), wipe_in hv hlt]
        · rw [List.getElem?_eq_none (by rw [wipe_length, wipe_length]; omega), List.getElem?_eq_none (by rw [wipe_length]; omega)]
      · rw [wipe_out hv]
    · have hD4 : H4 D = some (.lst acc) := s4.hh D _ hD3 pD
      have g4D : G4 D = none := s4.fr D g3D (by rw [hD3]; intro z; cases z)
      cases k with
      | false =>
        simp only [Bool.false_eq_true, if_false] at z4 ⊢
        exact ⟨G4, n4, acc, yac, (s2.tr s3).tr s4, hD4, g4D, ra.mono (s3.gg.trans s4.gg), by omega, z4⟩
      | true =>
        simp only [if_true] at z4 ⊢
        refine ⟨G4, env3, n4, g4.step s4, M.all_mono (M.all_bind z4) (fun y n5 _ z5 v G5 H5 s5 r5 => ?_) fun _ _ _ _ q => q⟩
        have hD5 : H5 D = some (.lst acc) := s5.hh D _ hD4 pD
        have g5D : G5 D = none := s5.fr D g4D (by rw [hD4]; intro z; cases z)
        have hsz := sizeOk_le hz
        have ra5 := ra.mono ((s3.gg.trans s4.gg).trans s5.gg)
        refine ⟨acc, hD5, by omega, G5, n5, acc ++ [v], yac ++ [y], (((s2.tr s3).tr s4).tr s5).put hD g5D pD, upd_same, g5D, ra5.append (.cons r5 .nil), by simp; omega, ?_⟩
        refine M.all_mono (M.all_bind z5) (fun ys n6 _ z6 a vs G' H' sx hx gx hax rx => z6 a vs G' H' sx hx gx hax (by simpa using rx)) fun _ _ _ _ q => q
  · rintro H2 ⟨G2, n2, acc, yac, s2, hacc, g2D, ra, hl, q2⟩
    rw [List.drop_length] at q2
    exact q2 D acc G2 H2 (s1.tr s2) hD0 g2D hacc (by simpa using ra)
section
variable {elt : Expr} {ifs : List Expr} {scope : Scope} {own : List (Str × Nat)} {it : SL} {A : TgS} {ix : List Nat} {T : ST} {E : SE}
theorem lcF_use {σ : L2.St} {H : Hp} {Q : VK} (hix : ∀ i ∈ ix, i ∈ own.map (·.2)) (h : tF b W (lcE (own.map (·.2)) it A T E) σ H Q) : tLc (tI b W it) (gT b ix A) (tT b W0 T) (tD b W0 E) (own.map (·.2)) σ H Q := by
  obtain ⟨G, env, n, g, q⟩ := h
  exact lc_use rfl hix ⟨G, env, n, g, M.all_mono (M.all_bind q) (fun ys n' _ z a vs G' H' s ha ga hv r => z a G' H' s ha ga ⟨vs, hv, r⟩) fun _ _ _ _ q => q⟩
theorem lcD_use {σ : L2.St} {H : Hp} {Q : VK} (hix : ∀ i ∈ ix, i ∈ own.map (·.2)) (h : tD b W (lcE (own.map (·.2)) it A T E) σ H Q) : tLc (tI b W it) (gT b ix A) (tT b W0 T) (tD b W0 E) (own.map (·.2)) σ H Q := by
  obtain ⟨G, env, n, g, q⟩ := h
  refine lc_use rfl hix ⟨G, env, n, g, M.all_mono (M.all_bind q) (fun ys n' _ z a vs G' H' s ha ga hv r => ?_) fun _ _ _ _ q => q⟩
  have pa : ¬ IsPen b.pn a := fun w => g.pen.there w ha
  obtain ⟨f1, f2, f3⟩ := Step.freeze (o := .lst vs) s.gh s.pen ga hv pa
  refine z (.ref a) (upd G' a (.lst vs)) H' ⟨s.gg.trans f1, f2, fun c gc hc => ?_, s.hh, f3⟩ (.lst upd_same (r.mono f1))
  rw [upd_ne (show c ≠ a from fun w => hc (w ▸ ha))]
  exact s.fr c gc hc
theorem de_lc (hc : X.calm = true) (hN : X.N.Nodup) (hi : PI X tg iter (tI b W it)) (ok : BlkOk X.N X.env.scope scope own) (hix : ∀ i ∈ ix, i ∈ own.map (·.2))
    (hg : ∀ (s : Shared) (H : Hp) (C : Addr) (cl : List (Str × Addr)) (fp : List Addr), PG (X.blk s H scope (compEnvC scope cl C X.env) fp) tg (gT b ix A)) (ht : ∀ (s : Shared) (H : Hp) (C : Addr) (cl : List (Str × Addr)) (fp : List Addr), PTs (X.blk s H scope (compEnvC scope cl C X.env) fp) ifs (tT b W0 T))
    (he : ∀ (s : Shared) (H : Hp) (C : Addr) (cl : List (Str × Addr)) (fp : List Addr), PE (X.blk s H scope (compEnvC scope cl C X.env) fp) elt (tD b W0 E)) (hs : ∀ x, foldedSetIterable iter X.env x = pure x := by intro _; rfl) :
    PE X (.ListComp elt [⟨tg, iter, ifs, 0⟩] scope pos) (tD b W (lcE (own.map (·.2)) it A T E)) := (pe_lc hc hN hi ok hg ht he hs).imp fun _ _ _ h => lcD_use hix h
theorem df_lc (hc : X.calm = true) (hN : X.N.Nodup) (hi : PI X tg iter (tI b W it)) (ok : BlkOk X.N X.env.scope scope own) (hix : ∀ i ∈ ix, i ∈ own.map (·.2))
    (hg : ∀ (s : Shared) (H : Hp) (C : Addr) (cl : List (Str × Addr)) (fp : List Addr), PG (X.blk s H scope (compEnvC scope cl C X.env) fp) tg (gT b ix A)) (ht : ∀ (s : Shared) (H : Hp) (C : Addr) (cl : List (Str × Addr)) (fp : List Addr), PTs (X.blk s H scope (compEnvC scope cl C X.env) fp) ifs (tT b W0 T))
    (he : ∀ (s : Shared) (H : Hp) (C : Addr) (cl : List (Str × Addr)) (fp : List Addr), PE (X.blk s H scope (compEnvC scope cl C X.env) fp) elt (tD b W0 E)) (hs : ∀ x, foldedSetIterable iter X.env x = pure x := by intro _; rfl) :
    PE X (.ListComp elt [⟨tg, iter, ifs, 0⟩] scope pos) (tF b W (lcE (own.map (·.2)) it A T E)) := (pe_lc hc hN hi ok hg ht he hs).imp fun _ _ _ h => lcF_use hix h
/-- x = [..] -/
theorem ds_setLc {i : Nat} {y : Str} {py spos : Pos} (hc : X.calm = true) (hN : X.N.Nodup) (hy : X.N[i]? = some y) (hyl : X.env.scope.names.lookup y = some .local) (hsw : swapsWith (.ListComp elt [⟨tg, iter, ifs, 0⟩] scope pos) (some (.Name y py)) spos.line X.env = pure true)
    (hi : PI X tg iter (tI b W it)) (ok : BlkOk X.N X.env.scope scope own) (hix : ∀ i ∈ ix, i ∈ own.map (·.2))
    (hg : ∀ (s : Shared) (H : Hp) (C : Addr) (cl : List (Str × Addr)) (fp : List Addr), PG (X.blk s H scope (compEnvC scope cl C X.env) fp) tg (gT b ix A)) (ht : ∀ (s : Shared) (H : Hp) (C : Addr) (cl : List (Str × Addr)) (fp : List Addr), PTs (X.blk s H scope (compEnvC scope cl C X.env) fp) ifs (tT b W0 T))
    (he : ∀ (s : Shared) (H : Hp) (C : Addr) (cl : List (Str × Addr)) (fp : List Addr), PE (X.blk s H scope (compEnvC scope cl C X.env) fp) elt (tD b W0 E)) (hs : ∀ x, foldedSetIterable iter X.env x = pure x := by intro _; rfl) :
    PS X (.Assign [.Name y py] (.ListComp elt [⟨tg, iter, ifs, 0⟩] scope pos) spos) (tS b W (asgS (nameG i) (lcE (own.map (·.2)) it A T E))) := (ps_setLc hc hN hy hyl hsw hi ok hg ht he hs).imp fun D σ H ⟨G, env, n, g, q⟩ =>
  lcD_use hix ⟨G, env, n, g, M.all_mono (M.all_bind q) (fun d n' _ z v G' H' s r => z G' H' _ s.gg ((g.step s).setVal r)) fun _ _ _ _ q => q⟩
/-- x = fresh, x's own -/
def asgO (i : Nat) (F : SE) : SS := fun env => (F env).bind fun d => .ret (.nx, env.set i (.own d))
theorem asgO_use {i : Nat} {F : SE} {D : Ends} {σ : L2.St} {H : Hp} (h : tS b W (asgO i F) D σ H) : tF b W F σ H (fun v H' => gName i v σ H' D.nx) := by
  obtain ⟨G, env, n, g, q⟩ := h
  refine ⟨G, env, n, g, M.all_mono (M.all_bind q) (fun d n' _ z a G' H' s ha ga oa => ?_) fun _ _ _ _ q => q⟩
  have g' := g.step s
  refine z G' H' _ s.gg (g'.setOwn ga (fun w => g.pen.there w ha) (.inl ?_) oa fun j d hj ej => ?_)
  · by_cases hx : b.ex a
    · obtain ⟨_, ⟨C, dx, fs, z⟩, _⟩ := g.exn a hx
      rw [z] at ha; cases ha
    · cases e : b.H0 a with
      | none => rfl
      | some o =>
        by_cases hp : IsPen b.pn a
        · exact absurd ha (g.pen.there hp)
        · rw [g.ext a o e hp hx] at ha; cases ha
  · obtain ⟨c, ec, _, _, _, oc⟩ := g.slots j _ hj
    rw [ej] at ec
    cases ec
    obtain ⟨o, z⟩ := oc.some
    rw [z] at ha; cases ha
theorem ds_setO {i : Nat} {x : Str} {F : SE} {pos' : Pos} (hN : X.N.Nodup) (hi : X.N[i]? = some x) (hx : Loc X.env.scope x) (he : PE X e (tF b W F)) (hs : swapsWith e (some (.Name x pos')) pos.line X.env = pure false := by rfl) (hf : X.fn x = true ∨ X.env.scope.names.lookup x = some .local := by first | exact .inl rfl | exact .inr rfl | assumption) :
    PS X (.Assign [.Name x pos'] e pos) (tS b W (asgO i F)) := (ps_set hN hi hx he hs hf).imp fun _ _ _ h => asgO_use h
theorem ds_setLcO {i : Nat} {y : Str} {py spos : Pos} (hc : X.calm = true) (hN : X.N.Nodup) (hy : X.N[i]? = some y) (hyl : X.env.scope.names.lookup y = some .local) (hsw : swapsWith (.ListComp elt [⟨tg, iter, ifs, 0⟩] scope pos) (some (.Name y py)) spos.line X.env = pure true)
    (hi : PI X tg iter (tI b W it)) (ok : BlkOk X.N X.env.scope scope own) (hix : ∀ i ∈ ix, i ∈ own.map (·.2))
    (hg : ∀ (s : Shared) (H : Hp) (C : Addr) (cl : List (Str × Addr)) (fp : List Addr), PG (X.blk s H scope (compEnvC scope cl C X.env) fp) tg (gT b ix A)) (ht : ∀ (s : Shared) (H : Hp) (C : Addr) (cl : List (Str × Addr)) (fp : List Addr), PTs (X.blk s H scope (compEnvC scope cl C X.env) fp) ifs (tT b W0 T))
    (he : ∀ (s : Shared) (H : Hp) (C : Addr) (cl : List (Str × Addr)) (fp : List Addr), PE (X.blk s H scope (compEnvC scope cl C X.env) fp) elt (tD b W0 E)) (hs : ∀ x, foldedSetIterable iter X.env x = pure x := by intro _; rfl) :
    PS X (.Assign [.Name y py] (.ListComp elt [⟨tg, iter, ifs, 0⟩] scope pos) spos) (tS b W (asgO i (lcE (own.map (·.2)) it A T E))) := (ps_setLc hc hN hy hyl hsw hi ok hg ht he hs).imp fun _ _ _ h => lcF_use hix (asgO_use h)
end

/-! ### fresh displays -/
theorem df_lst {es : List Expr} {L : SL} (h : PA X es (tL b W L)) : PE X (.List es pos) (tF b W (lstE L)) := (pe_lst h).imp fun σ H Q ⟨G, env, n, g, q⟩ =>
  tl_bind (R := RaiseG b W) g q fun vs ds G1 H1 n1 s1 r1 q1 g1 => by
    obtain ⟨hz, q2⟩ := if_all q1
    refine ⟨by rw [r1.length]; exact sizeOk_le hz, fun p hp => ?_⟩
    have hp0 : H p = none := by
      cases e : H p with
      | none => rfl
      | some o =>
        by_cases hq : IsPen b.pn p
        · exact absurd hp (s1.pen.there hq)
        · rw [s1.hh p o e hq] at hp; cases hp
    exact q2 _ _ _ (s1.tr (Step.newU g1.le g1.pen hp)) hp0 (g1.le.free hp) ⟨vs, upd_same, r1⟩
def dctE0 : SE := fun _ => .ret (.dct [])
theorem df_dict0 : PE X (.Dict [] [] pos) (tF b W dctE0) := pe_dnewK.imp fun σ H Q ⟨G, env, n, g, q⟩ p hp => q p G _ (Step.newU g.le g.pen hp) hp (g.le.free hp) ⟨[], upd_same, .nil⟩

/-! ### changes of own objects -/
def appS (i : Nat) (F : SE) : SS := fun env => match env[i]? with
  | some (.own (.lst ds)) => (F env).bind fun d => if sizeOk ds = true then .ret (.nx, env.set i (.own (.lst (ds ++ [d])))) else .fail
  | _ => .fail
/-- x.append(e) -/
theorem ds_append {i : Nat} {x : Str} {px apos cpos pos : Pos} {F : SE} (hx : PE X (.Name x px) (tVar i)) (he : PE X e (tD b W F)) (hs : starEach [e] X.env = [(false, eval e X.env)] := by rfl)
    (hbase : attributeBase (.Name x px) "append" X.env (eval (.Name x px) X.env) = eval (.Name x px) X.env := by rfl)
    (hfew : ((backTo cpos (starEach [e] X.env)).all (fun x => !x.1) && (backToKw cpos (keywordEach [] X.env)).all (fun x => x.1.isSome)
      && decide ([e].length + ([] : List Keyword).length + (if ([] : List Keyword).isEmpty then 0 else 1) < 30)) = true := by rfl)
    (hline : (apos.endLine == cpos.line) = true := by rfl) (hplain : (backTo cpos (starEach [] X.env)).any (·.1) = false := by rfl) (hw : swapsWith (.Call (.Attribute (.Name x px) "append" apos) [e] [] cpos) none pos.line X.env = pure false := by rfl) :
    PS X (.Expr (.Call (.Attribute (.Name x px) "append" apos) [e] [] cpos) pos) (tS b W (appS i F)) :=
  (ps_expr (pe_bm PySem.F.plainAttrs_list PySem.F.slot_list_append PySem.F.type_list_append mt_append hx (pa_cons he pa_nil hs) hbase hfew hline hs hplain) hw).imp fun D σ H ⟨G, env, n, g, q⟩ => by
    unfold appS at q
    split at q
    · rename_i ds hi
      obtain ⟨a, ea, ga, pa, h0, vs, hv, rv⟩ := g.slots i _ hi
      refine ⟨.ref a, ea, .inl ⟨rfl, _, .inl (.inl hv)⟩, ?_⟩
      refine td_bind (R := RaiseG b W) g q fun v d G1 H1 n1 s1 r1 q1 g1 => ?_
      obtain ⟨hz, q2⟩ := if_all q1
      have hv1 : H1 a = some (.lst vs) := s1.hh a _ hv pa
      have hl := sizeOk_le hz
      have hlen := rv.length
      have hz' := of_decide_eq_true (show decide (ds.length ≤ 1000000) = true from hz)
      refine ⟨a, vs, v, rfl, rfl, hv1, by rw [sizeLine_eq]; omega, ?_⟩
      exact q2 G1 _ σ s1.gg (g1.write hi ea ⟨_, upd_same, (rv.mono s1.gg).append (.cons r1 .nil)⟩ fun _ _ _ z => by rw [hv1] at z; cases z)
    · exact q.elim
end
end DL

set_option Elab.async false
set_option linter.all false
set_option maxRecDepth 100000
set_option maxHeartbeats 4000000
/-! The data layer: operations on data. -/
namespace DL
open PySem PySem.Spec L2

/-! ### sums, products -/
def addI : D → D → Option D
  | .int i, .int j => some (.int (i + j))
  | _, _ => none
def addS : D → D → Option D
  | .str x, .str y => if x.length + y.length ≤ 1000000 then some (.str (x ++ y)) else none
  | _, _ => none
def addL : D → D → Option D
  | .lst x, .lst y => if x.length + y.length ≤ 1000000 then some (.lst (x ++ y)) else none
  | _, _ => none
def subI : D → D → Option D
  | .int i, .int j => some (.int (i - j))
  | _, _ => none
def small64 (i : Int) : Bool := decide (-(2 ^ 64) < i) && decide (i < 2 ^ 64)
def mulI : D → D → Option D
  | .int i, .int j => if (small64 i || small64 j) = true then some (.int (i * j)) else none
  | _, _ => none
def mulL : D → D → Option D
  | .lst x, .int k => if 0 ≤ k ∧ k ≤ 1000 ∧ x.length ≤ 1000 then some (.lst (List.replicate k.toNat x).flatten) else none
  | _, _ => none
def modI : D → D → Option D
  | .int i, .int j => if 0 < j then some (.int (i % j)) else none
  | _, _ => none
def divI : D → D → Option D
  | .int i, .int j => if 0 < j ∧ j < 1073741824 then some (.int (i / j)) else none
  | _, _ => none
section
variable {X : Cx} {b : Bx} {W : XK}
theorem od_addI : OpD b (rI0 fun i j => .int (i + j)) addI := fun {G H n x y d e c Q} s p rx ry h q => by
  cases rx <;> cases ry <;> first | (cases h; done) | skip
  cases h
  exact ⟨_, _, rfl, rfl, q _ G H (Step.refl s p) .int⟩
theorem od_subI : OpD b (rI0 fun i j => .int (i - j)) subI := fun {G H n x y d e c Q} s p rx ry h q => by
  cases rx <;> cases ry <;> first | (cases h; done) | skip
  cases h
  exact ⟨_, _, rfl, rfl, q _ G H (Step.refl s p) .int⟩
theorem od_addS : OpD b (fun x y H Q => ∃ i j, x = .str i ∧ y = .str j ∧ i.length + j.length ≤ sizeLine ∧ Q (.str (i ++ j)) H) addS := fun {G H n x y d e c Q} s p rx ry h q => by
  cases rx <;> cases ry <;> first | (cases h; done) | skip
  rename_i i j
  have h : (if i.length + j.length ≤ 1000000 then some (D.str (i ++ j)) else none) = some c := h
  split at h
  · cases h
    exact ⟨_, _, rfl, rfl, by rw [sizeLine_eq]; omega, q _ G H (Step.refl s p) .str⟩
  · cases h
theorem od_addL : OpD b rCat addL := fun {G H n x y d e c Q} s p rx ry h q => by
  cases rx <;> cases ry <;> first | (cases h; done) | skip
  rename_i l1 v1 d1 g1 r1 l2 v2 d2 g2 r2
  have h : (if d1.length + d2.length ≤ 1000000 then some (D.lst (d1 ++ d2)) else none) = some c := h
  split at h
  · cases h
    have e1 := r1.length
    have e2 := r2.length
    refine ⟨_, _, _, _, rfl, rfl, s _ _ g1, s _ _ g2, by rw [sizeLine_eq]; omega, fun a ha => ?_⟩
    have st := Step.new (o := .lst (v1 ++ v2)) s p ha
    exact q _ _ _ st (.lst upd_same ((r1.append r2).mono st.gg))
  · cases h
theorem od_mulI : OpD b (rI CMul fun i j => .int (i * j)) mulI := fun {G H n x y d e c Q} s p rx ry h q => by
  cases rx <;> cases ry <;> first | (cases h; done) | skip
  rename_i i j
  have h : (if (small64 i || small64 j) = true then some (D.int (i * j)) else none) = some c := h
  split at h
  · rename_i hz
    cases h
    refine ⟨i, j, rfl, rfl, ?_, q _ G H (Step.refl s p) .int⟩
    unfold small64 at hz
    simp only [Bool.or_eq_true, Bool.and_eq_true, decide_eq_true_eq] at hz
    exact hz
  · cases h
theorem od_modI : OpD b (rI (fun _ j => 0 < j) fun i j => .int (i % j)) modI := fun {G H n x y d e c Q} s p rx ry h q => by
  cases rx <;> cases ry <;> first | (cases h; done) | skip
  rename_i i j
  have h : (if 0 < j then some (D.int (i % j)) else none) = some c := h
  split at h
  · cases h
    exact ⟨i, j, rfl, rfl, by assumption, q _ G H (Step.refl s p) .int⟩
  · cases h
theorem od_divI : OpD b (rI CDiv fun i j => .int (i / j)) divI := fun {G H n x y d e c Q} s p rx ry h q => by
  cases rx <;> cases ry <;> first | (cases h; done) | skip
  rename_i i j
  have h : (if 0 < j ∧ j < 1073741824 then some (D.int (i / j)) else none) = some c := h
  split at h
  · cases h
    exact ⟨i, j, rfl, rfl, by assumption, q _ G H (Step.refl s p) .int⟩
  · cases h
theorem RepL.flat {K : PySem.W.Frag} {mg : Str → Option Value} {pn : Pn} {G : Hp} {vs : List V} {ds : List D} (h : DL.RepL K mg pn G vs ds) : ∀ k : Nat, DL.RepL K mg pn G (List.replicate k vs).flatten (List.replicate k ds).flatten
  | 0 => .nil
  | k + 1 => by
    rw [List.replicate_succ, List.replicate_succ, List.flatten_cons, List.flatten_cons]
    exact h.append (RepL.flat h k)
theorem od_mulL : OpD b rRep mulL := fun {G H n x y d e c Q} s p rx ry h q => by
  cases rx <;> cases ry <;> first | (cases h; done) | skip
  rename_i l1 v1 d1 g1 r1 k
  have h : (if 0 ≤ k ∧ k ≤ 1000 ∧ d1.length ≤ 1000 then some (D.lst (List.replicate k.toNat d1).flatten) else none) = some c := h
  split at h
  · rename_i hk
    cases h
    have e1 := r1.length
    refine ⟨_, k, _, rfl, rfl, s _ _ g1, by omega, by omega, ?_, fun a ha => ?_⟩
    · rw [sizeLine_eq]
      have : v1.length * k.toNat ≤ 1000 * 1000 := Nat.mul_le_mul (by omega) (by omega)
      omega
    have st := Step.new (o := .lst (List.replicate k.toNat v1).flatten) s p ha
    exact q _ _ _ st (.lst upd_same ((r1.flat _).mono st.gg))
  · cases h
def addD (x y : D) : Option D := (addI x y).or ((addS x y).or (addL x y))
def mulD (x y : D) : Option D := (mulI x y).or (mulL x y)
variable {e a c : Expr} {Fa Fb F : SE} {L : SL} {pos : Pos}
theorem de_add (ha : PE X a (tD b W Fa)) (hb : PE X c (tD b W Fb)) : PE X (.BinOp a .Add c pos) (tD b W (opE addD Fa Fb)) := de_op (OpR.or op_add (OpR.or op_add_str op_cat)) (od_addI.orElse (od_addS.orElse od_addL)) ha hb
theorem de_sub (ha : PE X a (tD b W Fa)) (hb : PE X c (tD b W Fb)) : PE X (.BinOp a .Sub c pos) (tD b W (opE subI Fa Fb)) := de_op op_sub od_subI ha hb
theorem de_mul (ha : PE X a (tD b W Fa)) (hb : PE X c (tD b W Fb)) : PE X (.BinOp a .Mult c pos) (tD b W (opE mulD Fa Fb)) := de_op (OpR.or op_mul op_rep) (od_mulI.orElse od_mulL) ha hb
theorem de_mod (ha : PE X a (tD b W Fa)) (hb : PE X c (tD b W Fb)) : PE X (.BinOp a .Mod c pos) (tD b W (opE modI Fa Fb)) := de_op op_mod od_modI ha hb
theorem de_div (ha : PE X a (tD b W Fa)) (hb : PE X c (tD b W Fb)) : PE X (.BinOp a .FloorDiv c pos) (tD b W (opE divI Fa Fb)) := de_op op_fdiv od_divI ha hb

/-! ### comparisons -/
mutual
def toPy : D → Option PyData
  | .non => some .none
  | .bl k => some (.bool k)
  | .int i => some (.int i)
  | .str x => some (.str x)
  | .tup l => (toPyL l).map .tuple
  | .lst l => (toPyL l).map .list
  | .dct _ => none
  | .ins _ _ => none
  | .pen => none
def toPyL : List D → Option (List PyData)
  | [] => some []
  | d :: ds => match toPy d, toPyL ds with
    | some x, some xs => some (x :: xs)
    | _, _ => none
end
mutual
theorem rep_dp {G : Hp} : ∀ {v : V} {d : D} {x : PyData}, b.Rep G v d → toPy d = some x → Dp b.K G v x
  | _, _, _, .non, h => by cases h; exact .non
  | _, _, _, .bl, h => by cases h; exact .bl _
  | _, _, _, .int, h => by cases h; exact .int _
  | _, _, _, .str, h => by cases h; exact .str _
  | _, _, _, .tup hs r, h => by
    obtain ⟨xs, e, rfl⟩ := Option.map_eq_some_iff.mp h
    exact .tup hs (repl_dp r e)
  | _, _, _, .lst hs r, h => by
    obtain ⟨xs, e, rfl⟩ := Option.map_eq_some_iff.mp h
    exact .lst (SqL.of hs) (repl_dp r e)
  | _, _, _, .dct _ _, h => by cases h
  | _, _, _, .ins _ _ _, h => by cases h
  | _, _, _, .pen _, h => by cases h
theorem repl_dp {G : Hp} : ∀ {vs : List V} {ds : List D} {xs : List PyData}, b.RepL G vs ds → toPyL ds = some xs → DpAll b.K G vs xs
  | _, _, _, .nil, h => by cases h; exact .nil
  | _, _, _, .cons (d := d) (ds := ds) r t, h => by
    cases e1 : toPy d with
    | none => simp [toPyL, e1] at h
    | some x =>
      cases e2 : toPyL ds with
      | none => simp [toPyL, e1, e2] at h
      | some xs =>
        simp [toPyL, e1, e2] at h
        subst h
        exact .cons (rep_dp r e1) (repl_dp t e2)
end
mutual
theorem dp_mono {K : PySem.W.Frag} {G H : Hp} (s : Same G H) : ∀ {v : V} {x : PyData}, Dp K G v x → Dp K H v x
  | _, _, .non => .non
  | _, _, .bl k => .bl k
  | _, _, .int i => .int i
  | _, _, .str x => .str x
  | _, _, .lst h r => .lst (s.seq h) (dpl_mono s r)
  | _, _, .tup h r => .tup (sqT_mono s h) (dpl_mono s r)
theorem dpl_mono {K : PySem.W.Frag} {G H : Hp} (s : Same G H) : ∀ {v : List V} {x : List PyData}, DpAll K G v x → DpAll K H v x
  | _, _, .nil => .nil
  | _, _, .cons r t => .cons (dp_mono s r) (dpl_mono s t)
end
def eqP (x y : D) : Option Bool := match toPy x, toPy y with
  | some p, some q => if (SeqAt.shaped p && SeqAt.shaped q) = true then some (PyData.eqv p q) else none
  | _, _ => none
def eqPD (x y : D) : Option D := (eqP x y).map .bl
def nePD (x y : D) : Option D := (eqP x y).map fun k => .bl (!k)
def eqSD : D → D → Option D
  | .str x, .str y => some (.bl (decide (x = y)))
  | _, _ => none
def neSD : D → D → Option D
  | .str x, .str y => some (.bl (!decide (x = y)))
  | _, _ => none
def eqD (x y : D) : Option D := (eqSD x y).or (eqPD x y)
def neD (x y : D) : Option D := (neSD x y).or (nePD x y)
theorem dec_strV {i j : Str} : decide (V.str i = V.str j) = decide (i = j) := by
  rw [Bool.eq_iff_iff]
  simp
theorem od_eqS : OpD b rEq eqSD := fun {G H n x y d e c Q} s p rx ry h q => by
  unfold eqSD at h
  split at h
  · cases h; cases rx; cases ry; exact ⟨rfl, by rw [dec_strV]; exact q _ G H (Step.refl s p) .bl⟩
  · cases h
theorem od_neS : OpD b rNe neSD := fun {G H n x y d e c Q} s p rx ry h q => by
  unfold neSD at h
  split at h
  · cases h; cases rx; cases ry; exact ⟨rfl, by rw [dec_strV]; exact q _ G H (Step.refl s p) .bl⟩
  · cases h
theorem eqP_some {x y : D} {k : Bool} (h : eqP x y = some k) : ∃ p q, toPy x = some p ∧ toPy y = some q ∧ SeqAt.shaped p = true ∧ SeqAt.shaped q = true ∧ k = PyData.eqv p q := by
  unfold eqP at h
  split at h
  · rename_i p q e1 e2
    split at h
    · rename_i hs
      rw [Bool.and_eq_true] at hs
      exact ⟨p, q, e1, e2, hs.1, hs.2, (Option.some.inj h).symm⟩
    · cases h
  · cases h
theorem od_eqP : OpD b (rEqD b.K) eqPD := fun {G H n x y d e c Q} s p rx ry h q => by
  obtain ⟨k, hk, rfl⟩ := Option.map_eq_some_iff.mp h
  obtain ⟨u, v, e1, e2, s1, s2, rfl⟩ := eqP_some hk
  exact ⟨u, v, dp_mono s (rep_dp rx e1), dp_mono s (rep_dp ry e2), s1, s2, q _ G H (Step.refl s p) .bl⟩
theorem od_neP : OpD b (rNeD b.K) nePD := fun {G H n x y d e c Q} s p rx ry h q => by
  obtain ⟨k, hk, rfl⟩ := Option.map_eq_some_iff.mp h
  obtain ⟨u, v, e1, e2, s1, s2, rfl⟩ := eqP_some hk
  exact ⟨u, v, dp_mono s (rep_dp rx e1), dp_mono s (rep_dp ry e2), s1, s2, q _ G H (Step.refl s p) .bl⟩
theorem de_eq (hK : X.K = b.K) (hu : X.A.units + 64 < cLine) (ha : PE X a (tD b W Fa)) (hb : PE X c (tD b W Fb)) : PE X (.Compare a [.Eq] [c] pos) (tD b W (opE eqD Fa Fb)) := de_cmp (OpR.or op_eq (op_eqD hu)) (od_eqS.orElse (hK ▸ od_eqP)) ha hb
theorem de_ne (hK : X.K = b.K) (hu : X.A.units + 64 < cLine) (ha : PE X a (tD b W Fa)) (hb : PE X c (tD b W Fb)) : PE X (.Compare a [.NotEq] [c] pos) (tD b W (opE neD Fa Fb)) := de_cmp (OpR.or op_ne (op_neD hu)) (od_neS.orElse (hK ▸ od_neP)) ha hb
def cmpI (p : Int → Int → Bool) : D → D → Option D
  | .int i, .int j => some (.bl (p i j))
  | _, _ => none
theorem od_cmpI {p : Int → Int → Bool} : OpD b (rI0 fun i j => .bl (p i j)) (cmpI p) := fun {G H n x y d e c Q} s pp rx ry h q => by
  cases rx <;> cases ry <;> first | (cases h; done) | skip
  cases h
  exact ⟨_, _, rfl, rfl, q _ G H (Step.refl s pp) .bl⟩
def ltD := cmpI fun i j => decide (i < j)
def leD := cmpI fun i j => decide (i ≤ j)
def gtD := cmpI fun i j => decide (j < i)
def geD := cmpI fun i j => decide (j ≤ i)
theorem de_lt (ha : PE X a (tD b W Fa)) (hb : PE X c (tD b W Fb)) : PE X (.Compare a [.Lt] [c] pos) (tD b W (opE ltD Fa Fb)) := de_cmp op_lt od_cmpI ha hb
theorem de_le (ha : PE X a (tD b W Fa)) (hb : PE X c (tD b W Fb)) : PE X (.Compare a [.LtE] [c] pos) (tD b W (opE leD Fa Fb)) := de_cmp op_le od_cmpI ha hb
theorem de_gt (ha : PE X a (tD b W Fa)) (hb : PE X c (tD b W Fb)) : PE X (.Compare a [.Gt] [c] pos) (tD b W (opE gtD Fa Fb)) := de_cmp op_gt od_cmpI ha hb
theorem de_ge (ha : PE X a (tD b W Fa)) (hb : PE X c (tD b W Fb)) : PE X (.Compare a [.GtE] [c] pos) (tD b W (opE geD Fa Fb)) := de_cmp op_ge od_cmpI ha hb
/-- x in y: a text in a text -/
def hasSub (i j : Str) : Bool := !(Builtin.Str.occurrences j i 0 j.length 1).isEmpty
def inS : D → D → Option Bool
  | .str i, .str j => some (hasSub i j)
  | _, _ => none
def flatD : D → Bool
  | .non => true | .bl _ => true | .int _ => true | .str _ => true | _ => false
def eqF : D → D → Bool
  | .non, .non => true
  | .bl x, .bl y => x == y
  | .int x, .int y => x == y
  | .str x, .str y => x == y
  | .bl x, .int y => (if x then 1 else 0) == y
  | .int x, .bl y => x == (if y then 1 else 0)
  | _, _ => false
def inF (x : D) : D → Option Bool
  | .lst l => if (flatD x && l.all flatD) = true then some (l.any fun y => eqF y x) else none
  | .tup l => if (flatD x && l.all flatD) = true then some (l.any fun y => eqF y x) else none
  | _ => none
end
end DL

set_option Elab.async false
set_option linter.all false
set_option maxRecDepth 100000
set_option maxHeartbeats 4000000
/-! The data layer: in, is, built-in functions, attributes, items, slices, methods of texts, dicts. -/
namespace DL
open PySem PySem.Spec L2

section
variable {X : Cx} {b : Bx} {W : XK} {e a c : Expr} {Fa Fb F : SE} {L : SL} {pos : Pos}
theorem flat_V {G : Hp} {v : V} {d : D} (r : b.Rep G v d) (h : flatD d = true) : flatV v = true ∧ v = (match d with | .non => .non | .bl k => .bl k | .int i => .int i | .str x => .str x | _ => .non) := by
  cases r <;> first | (cases h; done) | exact ⟨rfl, rfl⟩
theorem eq_FV {G : Hp} {v u : V} {d e : D} (r : b.Rep G v d) (s : b.Rep G u e) (h : flatD d = true) (k : flatD e = true) : eqV v u = eqF d e := by
  cases r <;> first | (cases h; done) | skip
  all_goals (cases s <;> first | (cases k; done) | rfl)
theorem in_FV {G : Hp} {v : V} {d : D} (r : b.Rep G v d) (h : flatD d = true) : ∀ {vs : List V} {ds : List D}, b.RepL G vs ds → ds.all flatD = true → vs.all flatV = true ∧ inV v vs = ds.any fun y => eqF y d
  | _, _, .nil, _ => ⟨rfl, rfl⟩
  | _, _, .cons r1 t, hk => by
    rw [List.all_cons, Bool.and_eq_true] at hk
    obtain ⟨k1, k2⟩ := in_FV r h t hk.2
    refine ⟨by rw [List.all_cons, (flat_V r1 hk.1).1, k1]; rfl, ?_⟩
    unfold inV at k2 ⊢
    rw [List.any_cons, List.any_cons, k2, eq_FV r1 r hk.1 h]
def asKey : D → Option Key
  | .int i => some (.inl i)
  | .str x => some (.inr x)
  | _ => none
theorem asKey_rep {G : Hp} {v : V} {d : D} {k : Key} (r : b.Rep G v d) (h : asKey d = some k) : v = kV k := by
  cases r <;> first | (cases h; done) | skip
  all_goals (cases h; rfl)
def kget (kds : List (Key × D)) (k : Key) : Option D := (kds.find? fun kv => decide (kv.1 = k)).map (·.2)
def kput (kds : List (Key × D)) (k : Key) (d : D) : List (Key × D) :=
  if (kds.any fun kv => decide (kv.1 = k)) = true then kds.map (fun kv => if kv.1 = k then (kv.1, d) else kv) else kds ++ [(k, d)]
theorem RepK.kget {G : Hp} {k : Key} : ∀ {kvs : List (Key × V)} {kds : List (Key × D)}, b.RepK G kvs kds → (∀ d, kget kds k = some d → ∃ v, valV kvs k = some v ∧ b.Rep G v d) ∧ (kget kds k = none → valV kvs k = none)
  | _, _, .nil => ⟨fun d h => (by cases h), fun _ => rfl⟩
  | _, _, .cons (k := k') (v := v) (d := d') (vs := vs) (ds := ds) r t => by
    by_cases e : k' = k
    · have h1 : DL.kget ((k', d') :: ds) k = some d' := by simp [DL.kget, List.find?_cons, e]
      refine ⟨fun d h => ?_, fun h => by rw [h1] at h; cases h⟩
      rw [h1] at h; cases h
      exact ⟨v, valV_pos (p := (k', v)) e, r⟩
    · have h1 : DL.kget ((k', d') :: ds) k = DL.kget ds k := by simp [DL.kget, List.find?_cons, e]
      rw [h1, show valV ((k', v) :: vs) k = valV vs k from valV_neg (p := (k', v)) e]
      exact RepK.kget t
theorem RepK.anyK {G : Hp} {k : Key} : ∀ {kvs : List (Key × V)} {kds : List (Key × D)}, b.RepK G kvs kds → (kvs.any fun kv => decide (kv.1 = k)) = kds.any fun kv => decide (kv.1 = k)
  | _, _, .nil => rfl
  | _, _, .cons r t => by rw [List.any_cons, List.any_cons, RepK.anyK t]
theorem RepK.mapP {G : Hp} {k : Key} {v : V} {d : D} (r : b.Rep G v d) : ∀ {kvs : List (Key × V)} {kds : List (Key × D)}, b.RepK G kvs kds → b.RepK G (kvs.map fun kv => if kv.1 = k then (kv.1, v) else kv) (kds.map fun kv => if kv.1 = k then (kv.1, d) else kv)
  | _, _, .nil => .nil
  | _, _, .cons (k := k') r1 t => by
    rw [List.map_cons, List.map_cons]
    by_cases e : k' = k
    · simp only [e, if_true]; exact .cons r (RepK.mapP r t)
    · simp only [e, if_false]; exact .cons r1 (RepK.mapP r t)
theorem RepK.snoc {G : Hp} {k : Key} {v : V} {d : D} (r : b.Rep G v d) : ∀ {kvs : List (Key × V)} {kds : List (Key × D)}, b.RepK G kvs kds → b.RepK G (kvs ++ [(k, v)]) (kds ++ [(k, d)])
  | _, _, .nil => .cons r .nil
  | _, _, .cons r1 t => .cons r1 (RepK.snoc r t)
theorem RepK.put {G : Hp} {k : Key} {v : V} {d : D} {kvs : List (Key × V)} {kds : List (Key × D)} (h : b.RepK G kvs kds) (r : b.Rep G v d) : b.RepK G (putK kvs k v) (kput kds k d) := by
  unfold putK kput
  rw [h.anyK]
  split
  · exact h.mapP r
  · exact h.snoc r
def inK (x : D) : D → Option Bool
  | .dct kds => (asKey x).map fun k => (kget kds k).isSome
  | _ => none
def inAll (x y : D) : Option Bool := (inS x y).or ((inF x y).or (inK x y))
def inD (x y : D) : Option D := (inAll x y).map .bl
def ninD (x y : D) : Option D := (inAll x y).map fun k => .bl (!k)
theorem op_inK (hu : X.A.units + 1 < cLine) : OpR X (compareOp .In) (fun y x H Q => ∃ a o, x = .ref a ∧ DGet H a y o ∧ Q (.bl o.isSome) H) := fun pins s σ H x y v u Q I rx ry ⟨a, o, ea, g, q⟩ => by
  subst ea
  cases ry
  exact d_in hu I g rx fun s' I' => ⟨.bl o.isSome, H, I', rfl, q⟩
theorem op_ninK (hu : X.A.units + 1 < cLine) : OpR X (compareOp .NotIn) (fun y x H Q => ∃ a o, x = .ref a ∧ DGet H a y o ∧ Q (.bl (!o.isSome)) H) := fun pins s σ H x y v u Q I rx ry ⟨a, o, ea, g, q⟩ => by
  subst ea
  cases ry
  exact d_notIn hu I g rx fun s' I' => ⟨.bl (!o.isSome), H, I', rfl, q⟩
def rInAll (K : PySem.W.Frag) (f : Bool → Bool) : R2 := fun x y H Q => (∃ i j, x = .str i ∧ y = .str j ∧ Q (.bl (f (hasSub i j))) H) ∨
  (∃ p xs, y = .ref p ∧ (SqL K H p xs ∨ SqT K H p xs) ∧ flatV x = true ∧ xs.all flatV = true ∧ Q (.bl (f (inV x xs))) H) ∨ ∃ a o, y = .ref a ∧ DGet H a x o ∧ Q (.bl (f o.isSome)) H
theorem in_sound {f : Bool → Bool} {K : PySem.W.Frag} (hK : K = b.K) : OpD b (rInAll K f) (fun x y => (inAll x y).map fun k => .bl (f k)) := fun {G H n x y d e c Q} s p rx ry h q => by
  subst hK
  obtain ⟨k, hk, rfl⟩ := Option.map_eq_some_iff.mp h
  unfold inAll at hk
  have fin : ∀ {k' : Bool}, k' = k → Q (.bl (f k')) H := fun e => by subst e; exact q _ G H (Step.refl s p) .bl
  cases ry with
  | @str j =>
    cases rx with
    | @str i => exact .inl ⟨i, j, rfl, rfl, fin (Option.some.inj hk)⟩
    | _ => simp [inS, inF, inK] at hk
  | @lst l vs ds hl hr =>
    have hk : inF d (.lst ds) = some k := by cases d <;> simpa [inS, inK] using hk
    have hk : (if (flatD d && ds.all flatD) = true then some (ds.any fun y => eqF y d) else none) = some k := hk
    split at hk
    · rename_i z
      rw [Bool.and_eq_true] at z
      obtain ⟨k1, k2⟩ := in_FV rx z.1 hr z.2
      exact .inr (.inl ⟨l, vs, rfl, .inl (SqL.of (s _ _ hl)), (flat_V rx z.1).1, k1, fin (k2.trans (Option.some.inj hk))⟩)
    · cases hk
  | @tup l vs ds hl hr =>
    have hk : inF d (.tup ds) = some k := by cases d <;> simpa [inS, inK] using hk
    have hk : (if (flatD d && ds.all flatD) = true then some (ds.any fun y => eqF y d) else none) = some k := hk
    split at hk
    · rename_i z
      rw [Bool.and_eq_true] at z
      obtain ⟨k1, k2⟩ := in_FV rx z.1 hr z.2
      exact .inr (.inl ⟨l, vs, rfl, .inr (sqT_mono s hl), (flat_V rx z.1).1, k1, fin (k2.trans (Option.some.inj hk))⟩)
    · cases hk
  | @dct l o kvs kds hl hr =>
    have hk : inK d (.dct kds) = some k := by cases d <;> simpa [inS, inF] using hk
    obtain ⟨key, ek, e2⟩ := Option.map_eq_some_iff.mp hk
    have ev := asKey_rep rx ek
    refine .inr (.inr ⟨l, valV kvs key, rfl, .inl ⟨kvs, key, .inr ⟨o, s _ _ hl⟩, ev, rfl⟩, fin ?_⟩)
    rw [← e2]
    obtain ⟨k1, k2⟩ := hr.kget (k := key)
    cases z : kget kds key with
    | none => rw [k2 z]; rfl
    | some d' => obtain ⟨v', e', _⟩ := k1 d' z; rw [e']; rfl
  | _ => cases d <;> simp [inS, inF, inK] at hk
theorem op_inAll (hu : X.A.units + 1 < cLine) : OpR X (compareOp .In) (rInAll X.K fun k => k) := OpR.or op_in_str (OpR.or op_in_seq (op_inK hu))
theorem op_ninAll (hu : X.A.units + 1 < cLine) : OpR X (compareOp .NotIn) (rInAll X.K fun k => !k) := OpR.or op_notin_str (OpR.or op_notIn_seq (op_ninK hu))
theorem de_in (hK : X.K = b.K) (hu : X.A.units + 1 < cLine) (ha : PE X a (tD b W Fa)) (hb : PE X c (tD b W Fb)) (hm : behindInMarks .In c = false := by rfl) : PE X (.Compare a [.In] [c] pos) (tD b W (opE inD Fa Fb)) := de_cmp (op_inAll hu) (in_sound hK) ha hb hm
theorem de_nin (hK : X.K = b.K) (hu : X.A.units + 1 < cLine) (ha : PE X a (tD b W Fa)) (hb : PE X c (tD b W Fb)) (hm : behindInMarks .NotIn c = false := by rfl) : PE X (.Compare a [.NotIn] [c] pos) (tD b W (opE ninD Fa Fb)) := de_cmp (op_ninAll hu) (in_sound hK) ha hb hm
/-- is None -/
def isN : D → Bool
  | .non => true
  | _ => false
def isNE (F : SE) : SE := fun env => (F env).bind fun d => .ret (.bl (isN d))
def notNE (F : SE) : SE := fun env => (F env).bind fun d => .ret (.bl (!isN d))
theorem isN_rep {G : Hp} {v : V} {d : D} (r : b.Rep G v d) : decide (v = .non) = isN d := by cases r <;> simp [isN]
theorem de_isN {j pos'} (ha : PE X a (tD b W F)) : PE X (.Compare a [.Is] [.Constant .none j pos'] pos) (tD b W (isNE F)) := (pe_cmp (pc_isN ha)).imp fun σ H Q ⟨G, env, n, g, q⟩ =>
  td_bind (R := RaiseG b W) g q fun v d G1 H1 n1 s1 r1 q1 g1 => by rw [isN_rep r1]; exact q1 _ G1 H1 s1 .bl
theorem de_notN {j pos'} (ha : PE X a (tD b W F)) : PE X (.Compare a [.IsNot] [.Constant .none j pos'] pos) (tD b W (notNE F)) := (pe_cmp (pc_notN ha)).imp fun σ H Q ⟨G, env, n, g, q⟩ =>
  td_bind (R := RaiseG b W) g q fun v d G1 H1 n1 s1 r1 q1 g1 => by rw [isN_rep r1]; exact q1 _ G1 H1 s1 .bl
/-- a op c op' e -/
theorem de_chain {op op' : CmpOp} {r r' : R2} {f f' : D → D → Option D} (ho : OpR X (compareOp op) r) (hf : OpD b r f) (ho' : OpR X (compareOp op') r') (hf' : OpD b r' f') (ha : PE X a (tD b W Fa)) (hb : PE X c (tD b W Fb)) (he : PE X e (tD b W F)) (h1 : lastMarks [op, op'] [c, e] = false := by rfl) :
    PE X (.Compare a [op, op'] [c, e] pos) (tD b W fun env => (Fa env).bind fun x => (Fb env).bind fun y => (M.ofO (f x y)).bind fun z => (M.ofO (asB z)).bind fun k => if k = true then (F env).bind fun w => .ofO (f' y w) else .ret (.bl false)) := (pe_chain ho ho' ha hb he h1).imp fun σ H Q ⟨G, env, n, g, q⟩ => by
  refine td_bind (R := RaiseG b W) g q fun v d G1 H1 n1 s1 r1 q1 g1 => td_bind (R := RaiseG b W) g1 q1 fun u d2 G2 H2 n2 s2 r2 q2 g2 => ?_
  obtain ⟨z, ez, q3⟩ := ofO_all (M.all_bind q2)
  obtain ⟨k, ek, q4⟩ := ofO_all (M.all_bind q3)
  cases asB_some ek
  refine hf g2.le g2.pen (r1.mono s2.gg) r2 ez fun w G3 H3 s3 r3 => ?_
  cases r3
  refine ⟨k, rfl, ?_⟩
  cases k with
  | true =>
    simp only [if_true] at q4 ⊢
    refine td_bind (R := RaiseG b W) (g2.step s3) q4 fun w d4 G4 H4 n4 s4 r4 q5 g4 => ?_
    obtain ⟨z5, e5, q6⟩ := ofO_all q5
    exact hf' g4.le g4.pen (r2.mono (s3.gg.trans s4.gg)) r4 e5 fun v5 G5 H5 s5 r5 => q6 v5 G5 H5 ((((s1.tr s2).tr s3).tr s4).tr s5) r5
  | false =>
    simp only [Bool.false_eq_true, if_false] at q4 ⊢
    exact q4 _ G3 H3 ((s1.tr s2).tr s3) .bl

/-! ### built-in functions -/
def lenF : List D → Option D
  | [.str x] => if x.length ≤ 1000000 then some (.int x.length) else none
  | [.lst l] => some (.int l.length)
  | [.tup l] => some (.int l.length)
  | _ => none
theorem cr_len : CallR X (.builtin "len") (fun xs H Q => (∃ p ys, xs = [.ref p] ∧ (SqL X.K H p ys ∨ SqT X.K H p ys) ∧ Q (.int ys.length) H) ∨ (∃ z, xs = [.str z] ∧ z.length ≤ sizeLine ∧ Q (.int z.length) H)) := call_len_seq.or call_len_str
theorem cb_len (hK : X.K = b.K) : CbD b (fun xs H Q => (∃ p ys, xs = [.ref p] ∧ (SqL X.K H p ys ∨ SqT X.K H p ys) ∧ Q (.int ys.length) H) ∨ (∃ z, xs = [.str z] ∧ z.length ≤ sizeLine ∧ Q (.int z.length) H)) lenF := fun {G H n xs ds c Q} s p r h q => by
  unfold lenF at h
  split at h
  · split at h
    · rename_i x hx
      cases h
      cases r with | cons r t => cases r; cases t; exact .inr ⟨x, rfl, by rw [sizeLine_eq]; omega, q _ G H (Step.refl s p) .int⟩
    · cases h
  · cases h
    cases r with | cons r t => cases t; cases r with | lst hl hr => exact .inl ⟨_, _, rfl, .inl (SqL.of (s _ _ hl)), by rw [hr.length]; exact q _ G H (Step.refl s p) .int⟩
  · cases h
    cases r with | cons r t => cases t; cases r with | tup hl hr => exact .inl ⟨_, _, rfl, .inr (hK ▸ sqT_mono s hl), by rw [hr.length]; exact q _ G H (Step.refl s p) .int⟩
  · cases h
def strF : List D → Option D
  | [.str x] => some (.str x)
  | _ => none
theorem cb_str : CbD b (fun xs H Q => ∃ a, xs = [.str a] ∧ Q (.str a) H) strF := fun {G H n xs ds c Q} s p r h q => by
  unfold strF at h
  split at h
  · cases h; cases r with | cons r t => cases r; cases t; exact ⟨_, rfl, q _ G H (Step.refl s p) .str⟩
  · cases h
def intF : List D → Option D
  | [.int i] => some (.int i)
  | [.bl k] => some (.int (if k then 1 else 0))
  | _ => none
theorem cb_int : CbD b (fun xs H Q => (∃ i, xs = [.int i] ∧ Q (.int i) H) ∨ ∃ k, xs = [.bl k] ∧ Q (.int (if k then 1 else 0)) H) intF := fun {G H n xs ds c Q} s p r h q => by
  unfold intF at h
  split at h
  · cases h; cases r with | cons r t => cases r; cases t; exact .inl ⟨_, rfl, q _ G H (Step.refl s p) .int⟩
  · cases h; cases r with | cons r t => cases r; cases t; exact .inr ⟨_, rfl, q _ G H (Step.refl s p) .int⟩
  · cases h
def allB : List D → Option (List Bool)
  | [] => some []
  | .bl k :: r => (allB r).map (k :: ·)
  | _ => none
theorem allB_rep {G : Hp} : ∀ {ds : List D} {vs : List V} {ks : List Bool}, allB ds = some ks → b.RepL G vs ds → vs = ks.map V.bl
  | [], _, _, h, .nil => by cases h; rfl
  | .bl k :: r, _, _, h, .cons r1 t => by
    obtain ⟨ks, e, rfl⟩ := Option.map_eq_some_iff.mp h
    cases r1
    rw [allB_rep e t]; rfl
def anyF : List D → Option D
  | [.lst l] => (allB l).map fun ks => .bl (ks.any id)
  | _ => none
def allF : List D → Option D
  | [.lst l] => (allB l).map fun ks => .bl (ks.all id)
  | _ => none
theorem cb_any (hK : X.K = b.K) : CbD b (rAny X.K) anyF := fun {G H n xs ds c Q} s p r h q => by
  unfold anyF at h
  split at h
  · obtain ⟨ks, e, rfl⟩ := Option.map_eq_some_iff.mp h
    cases r with | cons r t => cases t; cases r with | lst hl hr => exact ⟨_, ks, rfl, by rw [← allB_rep e hr]; exact SqL.of (s _ _ hl), q _ G H (Step.refl s p) .bl⟩
  · cases h
theorem cb_all (hK : X.K = b.K) : CbD b (rAll X.K) allF := fun {G H n xs ds c Q} s p r h q => by
  unfold allF at h
  split at h
  · obtain ⟨ks, e, rfl⟩ := Option.map_eq_some_iff.mp h
    cases r with | cons r t => cases t; cases r with | lst hl hr => exact ⟨_, ks, rfl, by rw [← allB_rep e hr]; exact SqL.of (s _ _ hl), q _ G H (Step.refl s p) .bl⟩
  · cases h
def tupF : List D → Option D
  | [.lst l] => some (.tup l)
  | [.tup l] => some (.tup l)
  | _ => none
theorem cb_tup (hK : X.K = b.K) : CbD b (fun xs H Q => ∃ p ys, xs = [.ref p] ∧ ((SqL X.K H p ys ∧ ∀ l, H l = none → Q (.ref l) (upd H l (.tup ys))) ∨ (SqT X.K H p ys ∧ Q (.ref p) H))) tupF := fun {G H n xs ds c Q} s p r h q => by
  unfold tupF at h
  split at h
  · cases h
    cases r with | cons r t => cases t; cases r with | lst hl hr => exact ⟨_, _, rfl, .inl ⟨SqL.of (s _ _ hl), fun l hn => q _ _ _ (Step.new s p hn) (.tup (SqT.of upd_same) (hr.mono (Step.new s p hn).gg))⟩⟩
  · cases h
    cases r with | cons r t => cases t; cases r with | tup hl hr => exact ⟨_, _, rfl, .inr ⟨hK ▸ sqT_mono s hl, q _ G H (Step.refl s p) (.tup hl hr)⟩⟩
  · cases h
def absF : List D → Option D
  | [.int i] => some (.int (if i < 0 then -i else i))
  | _ => none
theorem cb_abs : CbD b (fun xs H Q => ∃ i, xs = [.int i] ∧ Q (.int (if i < 0 then -i else i)) H) absF := fun {G H n xs ds c Q} s p r h q => by
  unfold absF at h
  split at h
  · cases h; cases r with | cons r t => cases r; cases t; exact ⟨_, rfl, q _ G H (Step.refl s p) .int⟩
  · cases h
/-- sorted of texts -/
def leS (x y : Str) : Bool := !decide (y.cps.toList < x.cps.toList)
def insS (x : Str) : List Str → List Str
  | [] => [x]
  | y :: r => if leS x y = true then x :: y :: r else y :: insS x r
def sortS : List Str → List Str
  | [] => []
  | x :: r => insS x (sortS r)
theorem insS_perm (x : Str) : ∀ l, (insS x l).Perm (x :: l)
  | [] => List.Perm.refl _
  | y :: r => by
    unfold insS
    split
    · exact List.Perm.refl _
    · exact ((insS_perm x r).cons y).trans (List.Perm.swap x y r)
theorem sortS_perm : ∀ l, (sortS l).Perm l
  | [] => List.Perm.refl _
  | x :: r => (insS_perm x (sortS r)).trans ((sortS_perm r).cons x)
theorem leS_total {x y : Str} (h : ¬ leS x y = true) : leS y x = true := by
  unfold leS at h ⊢
  simp at h ⊢
  exact List.le_of_lt h
theorem leS_trans {x y z : Str} (h : leS x y = true) (k : leS y z = true) : leS x z = true := by
  unfold leS at h k ⊢
  simp at h k ⊢
  exact List.le_trans h k
theorem leS_anti {x y : Str} (h : leS x y = true) (k : leS y x = true) : x = y := by
  unfold leS at h k
  simp at h k
  have e := List.le_antisymm h k
  cases x; cases y
  simp at e
  simp [e]
theorem insS_sorted (x : Str) : ∀ l, l.Pairwise (fun a b => leS a b = true) → (insS x l).Pairwise (fun a b => leS a b = true)
  | [], _ => List.pairwise_singleton _ _
  | y :: r, h => by
    unfold insS
    rw [List.pairwise_cons] at h
    split
    · rename_i hx
      refine List.pairwise_cons.mpr ⟨fun z hz => ?_, List.pairwise_cons.mpr h⟩
      rcases List.mem_cons.mp hz with e | hz
      · subst e; exact hx
      · exact leS_trans hx (h.1 z hz)
    · rename_i hx
      refine List.pairwise_cons.mpr ⟨fun z hz => ?_, insS_sorted x r h.2⟩
      rcases List.mem_cons.mp ((insS_perm x r).mem_iff.mp hz) with e | hz
      · subst e; exact leS_total hx
      · exact h.1 z hz
theorem sortS_sorted : ∀ l, (sortS l).Pairwise (fun a b => leS a b = true)
  | [] => List.Pairwise.nil
  | x :: r => insS_sorted x _ (sortS_sorted r)
theorem sortS_unique {l m : List Str} (hp : m.Perm l) (hs : m.Pairwise (fun a b => leS a b = true)) : m = sortS l :=
  List.Perm.eq_of_pairwise (fun a b _ _ h1 h2 => leS_anti h1 h2) hs (sortS_sorted l) (hp.trans (sortS_perm l).symm)
theorem rising_pw : ∀ (l : List Str) (p : Str), PyProof.Rows.risingS p l = true → (p :: l).Pairwise (fun a b => leS a b = true)
  | [], p, _ => List.pairwise_singleton _ _
  | x :: r, p, h => by
    have h : (!PySem.Spec.ltCps x.cps.toList p.cps.toList && PyProof.Rows.risingS x r) = true := h
    rw [Bool.and_eq_true] at h
    have ih := rising_pw r x h.2
    have hx : leS p x = true := by
      unfold leS
      rw [PyProof.Rows.lt_meets]
      exact h.1
    refine List.pairwise_cons.mpr ⟨fun z hz => ?_, ih⟩
    rcases List.mem_cons.mp hz with e | hz
    · subst e; exact hx
    · exact leS_trans hx ((List.pairwise_cons.mp ih).1 z hz)
end
end DL

set_option Elab.async false
set_option linter.all false
set_option maxRecDepth 100000
set_option maxHeartbeats 4000000
/-! The data layer: sorted, items, slices, methods of texts, fields, stores, sharing what was one's own. -/
namespace DL
open PySem PySem.Spec L2

section
variable {X : Cx} {b : Bx} {W : XK} {e a c : Expr} {Fa Fb F : SE} {L : SL} {pos : Pos}
def allS : List D → Option (List Str)
  | [] => some []
  | .str k :: r => (allS r).map (k :: ·)
  | _ => none
theorem allS_rep {G : Hp} : ∀ {ds : List D} {vs : List V} {ks : List Str}, allS ds = some ks → b.RepL G vs ds → vs = ks.map V.str
  | [], _, _, h, .nil => by cases h; rfl
  | .str k :: r, _, _, h, .cons r1 t => by
    obtain ⟨ks, e, rfl⟩ := Option.map_eq_some_iff.mp h
    cases r1
    rw [allS_rep e t]; rfl
theorem allS_len : ∀ {ds : List D} {ks : List Str}, allS ds = some ks → ds.length = ks.length
  | [], _, h => by cases h; rfl
  | .str k :: r, _, h => by
    obtain ⟨ks, e, rfl⟩ := Option.map_eq_some_iff.mp h
    simp [allS_len e]
def srtF : List D → Option D
  | [.lst l] => (allS l).bind fun ks => if ks.length < 64 then some (.lst ((sortS ks).map .str)) else none
  | _ => none
theorem cb_sorted (hK : X.K = b.K) : CbD b (rSortedS X.K) srtF := fun {G H n xs ds c Q} s p r h q => by
  unfold srtF at h
  split at h
  · obtain ⟨ks, e, h2⟩ := Option.bind_eq_some_iff.mp h
    split at h2
    · rename_i hz
      cases h2
      cases r with | cons r t => cases t; cases r with | lst hl hr => exact ⟨_, ks, rfl, by rw [← allS_rep e hr]; exact SqL.of (s _ _ hl), hz, fun ys l hp hs hn => by
        have es : ys = sortS ks := by
          refine sortS_unique hp ?_
          cases ys with
          | nil => exact List.Pairwise.nil
          | cons y r => exact rising_pw r y hs
        subst es
        exact q _ _ _ (Step.new s p hn) (.lst upd_same RepL.strs)⟩
    · cases h2
  · cases h

/-! ### items -/
def ixS : D → D → Option D
  | .str z, .int i => if z.length ≤ 1000000 then (atI z.cps.toList i).map fun c => .str ⟨#[c]⟩ else none
  | _, _ => none
def ixL : D → D → Option D
  | .lst l, .int i => atI l i
  | .tup l, .int i => atI l i
  | _, _ => none
def ixK : D → D → Option D
  | .dct kds, k => (asKey k).bind fun key => kget kds key
  | _, _ => none
def ixD (x y : D) : Option D := (ixS x y).or ((ixL x y).or (ixK x y))
theorem atI_rep {G : Hp} {vs : List V} {ds : List D} {i : Int} {d : D} (r : b.RepL G vs ds) (h : atI ds i = some d) : ∃ v, atI vs i = some v ∧ b.Rep G v d := by
  unfold atI at h ⊢
  obtain ⟨j, e1, e2⟩ := Option.bind_eq_some_iff.mp h
  obtain ⟨v, e3, e4⟩ := r.getD e2
  exact ⟨v, by rw [r.length, e1]; exact e3, e4⟩
theorem ix_dict (hu : X.A.units + 1 < cLine) : IxR X (fun x y H Q => ∃ a v, x = .ref a ∧ DGet H a y (some v) ∧ Q v H) := by
  intro value slice pins s σ H x y v u Q I rx ry ⟨a, z, ex, g, q⟩ hs
  subst ex
  cases rx
  unfold PyProof.Rows.subscriptTail
  refine wpAny_bind ?_
  rw [getitemInPython_of_ne (dict_typeIs I g).not_modules]
  refine wpAny_bind (wpAny_specialOf (dict_typeIs I g) PySem.F.slot_dict_getitem.lookup ?_)
  have h₂ : wpAny (model X.prog X.w) X.A (getItem (.ref a) u) (EP X pins σ Q) X.xe s := d_getItem hu I g ry fun w' s3 I3 rw' => ⟨z, H, I3, rw', q⟩
  have fin : wpAny (model X.prog X.w) X.A (subscripted slice false (.ref a) u) (fun r s₃ => wpAny (model X.prog X.w) X.A (letTemporaryGo value (.ref a) r >>= fun _ => pure r) (EP X pins σ Q) X.xe s₃) X.xe s := by
    rw [hs]
    exact wpAny_operating (wpAny_mono h₂ (fun r s₃ h₃ => wpAny_bind (wpAny_letTemporaryGo (wpAny_pure h₃))) fun _ _ x => x)
  first
    | exact wpAny_pure (wpAny_bind fin)
    | exact wpAny_bind (wpAny_pure (wpAny_bind fin))
    | exact wpAny_bind fin
def rIxD (K : PySem.W.Frag) : R2 := fun x y H Q => rIxS x y H Q ∨ (rIxL K x y H Q ∨ rIxT K x y H Q) ∨ ∃ a v, x = .ref a ∧ DGet H a y (some v) ∧ Q v H
theorem ix_all (hu : X.A.units + 1 < cLine) : IxR X (rIxD X.K) := ix_str.or ((ix_list.or ix_tup).or (ix_dict hu))
theorem ix_sound {K : PySem.W.Frag} (hK : K = b.K) : OpD b (rIxD K) ixD := fun {G H n x y d e c Q} s p rx ry h q => by
  subst hK
  unfold ixD at h
  cases rx with
  | @str z =>
    have h : ixS (.str z) e = some c := by cases e <;> simpa [ixS, ixL, ixK] using h
    cases ry with
    | @int i =>
      have h : (if z.length ≤ 1000000 then (atI z.cps.toList i).map fun c => D.str ⟨#[c]⟩ else none) = some c := h
      split at h
      · obtain ⟨ch, e1, rfl⟩ := Option.map_eq_some_iff.mp h
        exact .inl ⟨z, i, ch, rfl, rfl, by rw [sizeLine_eq]; omega, e1, q _ G H (Step.refl s p) .str⟩
      · cases h
    | _ => cases h
  | @lst l vs ds hl hr =>
    have h : ixL (.lst ds) e = some c := by cases e <;> simpa [ixS, ixL, ixK] using h
    cases ry with
    | @int i =>
      obtain ⟨v, e1, r1⟩ := atI_rep hr h
      exact .inr (.inl (.inl ⟨l, vs, i, v, rfl, rfl, SqL.of (s _ _ hl), e1, q _ G H (Step.refl s p) r1⟩))
    | _ => cases h
  | @tup l vs ds hl hr =>
    have h : ixL (.tup ds) e = some c := by cases e <;> simpa [ixS, ixL, ixK] using h
    cases ry with
    | @int i =>
      obtain ⟨v, e1, r1⟩ := atI_rep hr h
      exact .inr (.inl (.inr ⟨l, vs, i, v, rfl, rfl, sqT_mono s hl, e1, q _ G H (Step.refl s p) r1⟩))
    | _ => cases h
  | @dct l o kvs kds hl hr =>
    have h : ixK (.dct kds) e = some c := by cases e <;> simpa [ixS, ixL, ixK] using h
    obtain ⟨key, ek, e2⟩ := Option.bind_eq_some_iff.mp h
    obtain ⟨v, e1, r1⟩ := (hr.kget (k := key)).1 c e2
    exact .inr (.inr ⟨l, v, rfl, .inl ⟨kvs, key, .inr ⟨o, s _ _ hl⟩, asKey_rep ry ek, e1.symm⟩, q _ G H (Step.refl s p) r1⟩)
  | _ => cases e <;> simp [ixS, ixL, ixK] at h
theorem de_ix (hK : X.K = b.K) (hu : X.A.units + 1 < cLine) (ha : PE X a (tD b W Fa)) (hb : PE X c (tD b W Fb)) (hs : PlainIx c := by exact fun _ _ => rfl) : PE X (.Subscript a c pos) (tD b W (opE ixD Fa Fb)) :=
  (pe_ix (ix_all hu) ha hb hs).imp fun _ _ _ h => top_use (ix_sound hK) h

/-! ### slices -/
abbrev SO := PEnv → M (Option Int)
def PostO (b : Bx) (G H : Hp) (Q : Option Int → Hp → Prop) : Option Int → Nat → Prop := fun c n' => ∀ G' H', Step b.pn G H G' H' n' → Q c H'
def tO (b : Bx) (W : XK) (F : SO) : TO := fun σ H Q => ∃ G env n, Good b G H σ env n ∧ (F env).All (PostO b G H Q) (RaiseG b W) n
theorem to_bind {β : Type} {FT : SO} {f : Option Int → M β} {P : β → Nat → Prop} {G H : Hp} {σ : L2.St} {env : PEnv} {n : Nat} {Q : Option Int → Hp → Prop} (g : Good b G H σ env n)
    (h : ((FT env).bind f).All P (RaiseG b W) n) (k : ∀ d G' H' n', Step b.pn G H G' H' n' → (f d).All P (RaiseG b W) n' → Good b G' H' σ env n' → Q d H') : tO b W FT σ H Q :=
  ⟨G, env, n, g, M.all_mono (M.all_bind h) (fun d n' _ q G' H' st => k d G' H' n' st q (g.step st)) fun _ _ _ _ q => q⟩
def asI : D → Option (Option Int)
  | .int i => some (some i)
  | _ => none
def noO : SO := fun _ => .ret none
def someO (F : SE) : SO := fun env => (F env).bind fun d => .ofO (asI d)
theorem _root_.L2.PO.imp {e : Option Expr} {t t' : TO} (h : PO X e t) (hi : ∀ σ H Q, t' σ H Q → t σ H Q) : PO X e t' := ⟨fun pins s σ H Q I q => h.run pins s σ H Q I (hi _ _ _ q)⟩
theorem do_none : PO X none (tO b W noO) := po_none.imp fun σ H Q ⟨G, env, n, g, q⟩ => q G H (Step.refl g.le g.pen)
theorem do_some (h : PE X e (tD b W F)) : PO X (some e) (tO b W (someO F)) := (po_some h).imp fun σ H Q ⟨G, env, n, g, q⟩ => by
  refine td_bind (R := RaiseG b W) g q fun v d G1 H1 n1 s1 r1 q1 g1 => ?_
  obtain ⟨o, eo, q2⟩ := ofO_all q1
  cases d <;> simp [asI] at eo
  subst eo
  cases r1
  exact ⟨_, rfl, q2 G1 H1 s1⟩
def cutD (xs : List D) (lo hi : Option Int) : List D := (xs.drop (HT.sIx xs.length 0 lo)).take (HT.sIx xs.length xs.length hi - HT.sIx xs.length 0 lo)
def slD (x : D) (lo hi : Option Int) : Option D := match x with
  | .str z => if z.length ≤ 1000000 then some (.str (cutS z lo hi)) else none
  | .lst l => some (.lst (cutD l lo hi))
  | _ => none
def slE (F : SE) (A B : SO) : SE := fun env => (F env).bind fun x => (A env).bind fun lo => (B env).bind fun hi => .ofO (slD x lo hi)
theorem de_slice {lo hi : Option Expr} {A B : SO} {p2 : Pos} (hK : X.K = b.K) (he : PE X e (tD b W F)) (hl : PO X lo (tO b W A)) (hh : PO X hi (tO b W B)) : PE X (.Subscript e (.Slice lo hi none p2) pos) (tD b W (slE F A B)) :=
  (pe_slice (sl_str.or sl_list) he hl hh).imp fun σ H Q ⟨G, env, n, g, q⟩ => by
    refine td_bind (R := RaiseG b W) g q fun v d G1 H1 n1 s1 r1 q1 g1 => to_bind g1 q1 fun l G2 H2 n2 s2 q2 g2 => to_bind g2 q2 fun h G3 H3 n3 s3 q3 g3 => ?_
    obtain ⟨z, ez, q4⟩ := ofO_all q3
    have r3 := r1.mono (s2.gg.trans s3.gg)
    have st := (s1.tr s2).tr s3
    cases r3 with
    | @str x =>
      have ez : (if x.length ≤ 1000000 then some (D.str (cutS x l h)) else none) = some z := ez
      split at ez
      · cases ez
        exact .inl ⟨x, rfl, by rw [sizeLine_eq]; omega, q4 _ G3 H3 st .str⟩
      · cases ez
    | @lst a vs ds hl hr =>
      cases ez
      refine .inr ⟨a, vs, rfl, SqL.of (g3.le _ _ hl), fun p hp => ?_⟩
      have s4 := Step.new (o := .lst (cutV vs l h)) g3.le g3.pen hp
      refine q4 _ _ _ (st.tr s4) (.lst upd_same (DL.RepL.mono s4.gg ?_))
      unfold cutV cutD
      rw [hr.length]
      exact (hr.drop _).take _
    | _ => cases ez
def revF : D → Option D
  | .lst l => some (.lst l.reverse)
  | _ => none
def un1 (f : D → Option D) (F : SE) : SE := fun env => (F env).bind fun d => .ofO (f d)
theorem de_rev {k : Nat} {p1 p2 p3 : Pos} (he : PE X e (tD b W F)) : PE X (.Subscript e (.Slice none none (some (.UnaryOp .USub (.Constant (.int 1) k p1) p2)) p3) pos) (tD b W (un1 revF F)) := (pe_revL he).imp fun σ H Q ⟨G, env, n, g, q⟩ => by
  refine td_bind (R := RaiseG b W) g q fun v d G1 H1 n1 s1 r1 q1 g1 => ?_
  obtain ⟨z, ez, q2⟩ := ofO_all q1
  cases r1 with
  | @lst a vs ds hl hr =>
    cases ez
    refine ⟨a, vs, rfl, SqL.of (g1.le _ _ hl), fun p hp => ?_⟩
    have s4 := Step.new (o := .lst vs.reverse) g1.le g1.pen hp
    exact q2 _ _ _ (s1.tr s4) (.lst upd_same (hr.rev.mono s4.gg))
  | _ => cases ez

/-! ### methods of texts -/
def MtD (b : Bx) (r : V → List V → Hp → VK → Prop) (f : D → List D → Option D) : Prop := ∀ {G H : Hp} {n : Nat} {x : V} {xs : List V} {d : D} {ds : List D} {c : D} {Q : VK}, Same G H → PenOk b.pn G H n → b.Rep G x d → b.RepL G xs ds → f d ds = some c →
  (∀ v G' H', Step b.pn G H G' H' n → b.Rep G' v c → Q v H') → r x xs H Q
def mtE (f : D → List D → Option D) (F : SE) (A : SE) : SE := fun env => (F env).bind fun x => match x with
  | .str z => (A env).bind fun y => .ofO (f (.str z) [y])
  | _ => .fail
theorem de_m1 {id : String} {name : Str} {apos : Pos} {r : V → List V → Hp → VK → Prop} {f : D → List D → Option D} (slot : PySem.Slot "str" name id) (ty : typeOf (.builtin id) = pure (.type "method_descriptor")) (rule : MtR X id r) (hf : MtD b r f) (ho : PE X a (tD b W Fa)) (he : PE X e (tD b W F))
    (hs : starEach [e] X.env = [(false, eval e X.env)] := by rfl) (hbase : attributeBase a name X.env (eval a X.env) = eval a X.env := by rfl) (hline : (apos.endLine == pos.line) = true := by rfl) :
    PE X (.Call (.Attribute a name apos) [e] [] pos) (tD b W (mtE f Fa F)) := (pe_m1 slot ty rule ho he hs hbase hline).imp fun σ H Q ⟨G, env, n, g, q⟩ => by
  refine td_bind (R := RaiseG b W) g q fun v d G1 H1 n1 s1 r1 q1 g1 => ?_
  cases r1 with
  | @str z =>
    refine ⟨⟨z, rfl⟩, td_bind (R := RaiseG b W) g1 q1 fun u d2 G2 H2 n2 s2 r2 q2 g2 => ?_⟩
    obtain ⟨c, ec, q3⟩ := ofO_all q2
    exact hf g2.le g2.pen .str (.cons r2 .nil) ec fun w G' H' s3 r3 => q3 w G' H' ((s1.tr s2).tr s3) r3
  | _ => exact q1.elim
def startF : D → List D → Option D
  | .str x, [.str y] => some (.bl (Txt.startswith x y))
  | _, _ => none
def findF : D → List D → Option D
  | .str x, [.str y] => some (.int (Txt.find x y))
  | _, _ => none
def joinF : D → List D → Option D
  | .str x, [.lst l] => (allS l).bind fun ys => if (ys.map (·.length)).sum + ys.length * x.length ≤ 1000000 then some (.str (Txt.join x ys)) else none
  | _, _ => none
theorem md_start : MtD b (fun x xs H Q => ∃ a b, x = .str a ∧ xs = [.str b] ∧ Q (.bl (Txt.startswith a b)) H) startF := fun {G H n x xs d ds c Q} s p rx r h q => by
  unfold startF at h
  split at h
  · cases h; cases rx; cases r with | cons r t => cases r; cases t; exact ⟨_, _, rfl, rfl, q _ G H (Step.refl s p) .bl⟩
  · cases h
theorem md_find : MtD b (fun x xs H Q => ∃ a b, x = .str a ∧ xs = [.str b] ∧ Q (.int (Txt.find a b)) H) findF := fun {G H n x xs d ds c Q} s p rx r h q => by
  unfold findF at h
  split at h
  · cases h; cases rx; cases r with | cons r t => cases r; cases t; exact ⟨_, _, rfl, rfl, q _ G H (Step.refl s p) .int⟩
  · cases h
theorem md_join (hK : X.K = b.K) : MtD b (fun x xs H Q => ∃ a p, ∃ ys : List Str, x = .str a ∧ xs = [.ref p] ∧ (SqL X.K H p (ys.map V.str) ∨ SqT X.K H p (ys.map V.str)) ∧
    (ys.map (·.length)).sum + ys.length * a.length ≤ 16777216 ∧ Q (.str (Txt.join a ys)) H) joinF := fun {G H n x xs d ds c Q} s p rx r h q => by
  unfold joinF at h
  split at h
  · obtain ⟨ys, e, h2⟩ := Option.bind_eq_some_iff.mp h
    split at h2
    · cases h2
      cases rx
      cases r with | cons r t => cases t; cases r with | lst hl hr => exact ⟨_, _, ys, rfl, rfl, .inl (by rw [← allS_rep e hr]; exact SqL.of (s _ _ hl)), by omega, q _ G H (Step.refl s p) .str⟩
    · cases h2
  · cases h

/-! ### fields -/
/-- the classes of cs have the field f, none of them as a class attribute -/
def FldOk (K : PySem.W.Frag) (mg : Str → Option Value) (cs : List Str) (f : Str) : Prop := ∀ c ∈ cs, ∀ C, mg c = some (.ref C) → Cls K C ∧ NoAttr K C f
def fldF (cs : List Str) (f : Str) : D → Option D
  | .ins c fs => if c ∈ cs then fs.lookup f else none
  | _ => none
theorem de_fld {cs : List Str} {f : Str} (hK : X.K = b.K) (hf : FldOk b.K b.mg cs f) (he : PE X e (tD b W F)) (hb : attributeBase e f X.env (eval e X.env) = eval e X.env := by rfl) : PE X (.Attribute e f pos) (tD b W (un1 (fldF cs f) F)) := (pe_fld he hb).imp fun σ H Q ⟨G, env, n, g, q⟩ => by
  refine td_bind (R := RaiseG b W) g q fun v d G1 H1 n1 s1 r1 q1 g1 => ?_
  obtain ⟨z, ez, q2⟩ := ofO_all q1
  cases r1 with
  | @ins a C dx fs gs c hm hg hr =>
    have ez : (if c ∈ cs then gs.lookup f else none) = some z := ez
    split at ez
    · rename_i hc
      obtain ⟨u, eu, ru⟩ := hr.lookup ez
      obtain ⟨k1, k2⟩ := hf c hc C hm
      exact ⟨a, C, dx, fs, u, rfl, g1.le _ _ hg, hK ▸ k1, hK ▸ k2, eu, q2 _ G1 H1 s1 ru⟩
    · cases ez
  | _ => cases ez
/-- self.f = e, self one's own -/
def fput (fs : List (Str × D)) (f : Str) (d : D) : List (Str × D) := match fs with
  | [] => [(f, d)]
  | (g, x) :: r => if g = f then (g, d) :: r else (g, x) :: fput r f d
theorem RepF.put {G : Hp} {f : Str} {v : V} {d : D} (r : b.Rep G v d) : ∀ {vs : List (Str × V)} {ds : List (Str × D)}, b.RepF G vs ds → b.RepF G (putF f v vs) (fput ds f d)
  | _, _, .nil => .cons r .nil
  | _, _, .cons (k := k) (v := v') (d := d') (vs := vs) (ds := ds) r1 t => by
    show b.RepF G (if k = f then (k, v) :: vs else (k, v') :: putF f v vs) (if k = f then (k, d) :: ds else (k, d') :: fput ds f d)
    split
    · exact .cons r t
    · exact .cons r1 (RepF.put r t)
theorem RepF.length {G : Hp} : ∀ {vs : List (Str × V)} {ds : List (Str × D)}, b.RepF G vs ds → vs.length = ds.length
  | _, _, .nil => rfl
  | _, _, .cons _ t => congrArg (· + 1) (RepF.length t)
def fldS (i : Nat) (cs : List Str) (f : Str) (F : SE) : SS := fun env => match env[i]? with
  | some (.own (.ins c fs)) => if c ∈ cs ∧ fs.length < 100 then (F env).bind fun d => .ret (.nx, env.set i (.own (.ins c (fput fs f d)))) else .fail
  | _ => .fail
theorem ds_fld {i : Nat} {x f : Str} {px ap : Pos} {cs : List Str} (hK : X.K = b.K) (hf : FldOk b.K b.mg cs f) (hx : PE X (.Name x px) (tVar i)) (he : PE X e (tD b W F)) (hs : swapsWith e (some (.Attribute (.Name x px) f ap)) pos.line X.env = pure false := by rfl) :
    PS X (.Assign [.Attribute (.Name x px) f ap] e pos) (tS b W (fldS i cs f F)) := (ps_fld hx he hs).imp fun D σ H ⟨G, env, n, g, q⟩ => by
  unfold fldS at q
  split at q
  · rename_i c fs hi
    split at q
    · rename_i hc
      obtain ⟨a, ea, ga, pa, h0, xa, C, dx, vs, hm, hv, rv⟩ := g.slots i _ hi
      refine td_bind (R := RaiseG b W) g q fun v d G1 H1 n1 s1 r1 q1 g1 => ?_
      obtain ⟨k1, k2⟩ := hf c hc.1 C hm
      have hv1 := s1.hh a _ hv pa
      refine ⟨.ref a, ea, a, C, dx, vs, rfl, hv1, hK ▸ k1, hK ▸ k2, by rw [rv.length]; omega, ?_⟩
      exact q1 G1 _ σ s1.gg (g1.write hi ea ⟨xa, C, dx, _, hm, upd_same, RepF.put r1 (rv.mono s1.gg)⟩ fun _ _ _ _ => ⟨_, _, _, rfl⟩)
    · exact q.elim
  · exact q.elim
/-- d[k] = e, d one's own -/
def putS (i : Nat) (Fk F : SE) : SS := fun env => match env[i]? with
  | some (.own (.dct kds)) => (F env).bind fun d => (Fk env).bind fun kd => (M.ofO (asKey kd)).bind fun k => if kds.length < 1000000 then .ret (.nx, env.set i (.own (.dct (kput kds k d)))) else .fail
  | _ => .fail
theorem ds_dput {i : Nat} {x : Str} {px sp : Pos} {k : Expr} {Fk : SE} (hu : X.A.units + 1 < cLine) (hx : PE X (.Name x px) (tVar i)) (hk : PE X k (tD b W Fk)) (he : PE X e (tD b W F)) (hs : swapsWith e (some (.Subscript (.Name x px) k sp)) pos.line X.env = pure false := by rfl) :
    PS X (.Assign [.Subscript (.Name x px) k sp] e pos) (tS b W (putS i Fk F)) := (ps_dput hu hx hk he hs).imp fun D σ H ⟨G, env, n, g, q⟩ => by
  unfold putS at q
  split at q
  · rename_i kds hi
    obtain ⟨a, ea, ga, pa, h0, kvs, hv, rv⟩ := g.slots i _ hi
    refine td_bind (R := RaiseG b W) g q fun v d G1 H1 n1 s1 r1 q1 g1 => ⟨.ref a, ea, td_bind (R := RaiseG b W) g1 q1 fun u kd G2 H2 n2 s2 r2 q2 g2 => ?_⟩
    obtain ⟨key, ek, q3⟩ := ofO_all (M.all_bind q2)
    split at q3
    · rename_i hz
      have st := s1.tr s2
      have hv2 := st.hh a _ hv pa
      cases asKey_rep r2 ek
      refine ⟨a, _, rfl, DPut.k hv2 (by rw [rv.length, sizeLine_eq]; omega), ?_⟩
      exact q3 G2 _ σ st.gg (g2.write hi ea ⟨_, upd_same, (rv.mono st.gg).put (r1.mono s2.gg)⟩ fun _ _ _ z => by rw [hv2] at z; cases z)
    · exact q3.elim
  · exact q.elim

/-! ### what was one's own is shared from now on -/
def frzEnv (i : Nat) (env : PEnv) : Option PEnv := match env[i]? with
  | some (.own (.lst l)) => some (env.set i (.val (.lst l)))
  | some (.own (.dct l)) => some (env.set i (.val (.dct l)))
  | _ => none
def frzS (i : Nat) (A : SS) : SS := fun env => match frzEnv i env with
  | some env' => A env'
  | none => .fail
theorem Good.frz {G H : Hp} {σ : L2.St} {env : PEnv} {n i : Nat} {d : D} {a : Addr} {o : HO} (g : Good b G H σ env n) (hi : env[i]? = some (Slot.own d)) (hσ : σ[i]? = some (some (.ref a))) (hx : ¬ b.ex a) (r : b.Rep (upd G a o) (.ref a) d) : Good b (upd G a o) (upd H a o) σ (env.set i (.val d)) n := by
  obtain ⟨a', ea, ga, pa, h0, oa⟩ := g.slots i _ hi
  rw [hσ] at ea
  cases ea
  have h0 : b.H0 a = none := h0.resolve_right hx
  have gne : ∀ c u, G c = some u → c ≠ a := fun c u q z => by rw [z, ga] at q; cases q
  have s1 : Same G (upd G a o) := fun c u q => by rw [upd_ne (gne c u q)]; exact q
  refine ⟨fun c u q => ?_, g.base.trans s1, fun c h1 h2 => ?_, fun c u q p x => ?_, fun p l e => ?_, by simpa using g.len, fun j s e => ?_, fun c x => ?_, fun j k d1 e1 c h1 h2 h3 h4 => ?_⟩
  · by_cases z : c = a
    · subst z; rw [upd_same] at q ⊢; exact q
    · rw [upd_ne z] at q ⊢; exact g.le c u q
  · rw [upd_ne (show c ≠ a from fun z => h2 (z ▸ h0))]; exact g.fresh c h1 h2
  · rw [upd_ne (show c ≠ a from fun z => by rw [z, h0] at q; cases q)]; exact g.ext c u q p x
  · obtain ⟨k1, cs, t, f, z, z2, z3⟩ := g.pen p l e
    have n1 : p ≠ a := fun w => pa ⟨l, by rw [← w]; exact e⟩
    exact ⟨by rw [upd_ne n1]; exact k1, cs, t, f, by rw [upd_ne n1]; exact z, by rw [upd_ne (gne _ _ z2)]; exact z2, z3⟩
  · rcases set_get? e with ⟨e1, e2, e3⟩ | ⟨e1, e2⟩
    · subst e1 e2
      exact ⟨.ref a, hσ, r⟩
    · have q := g.slots j s e2
      cases s with
      | no => trivial
      | val d => obtain ⟨v, e, r⟩ := q; exact ⟨v, e, r.mono s1⟩
      | own d0 =>
        obtain ⟨c, ec, gc, pc, h0c, oc⟩ := q
        have ne : c ≠ a := fun z => e1 (g.sep i j d d0 a hi e2 hσ (z ▸ ec))
        exact ⟨c, ec, by rw [upd_ne ne]; exact gc, pc, h0c, oc.mono s1 fun u q => by rw [upd_ne ne]; exact q⟩
  · obtain ⟨x1, x2, x3⟩ := g.exn c x
    have z : c ≠ a := fun z => hx (z ▸ x)
    exact ⟨by rw [upd_ne z]; exact x1, by rw [upd_ne z]; exact x2, x3⟩
  · rcases set_get? h1 with ⟨_, z, _⟩ | ⟨e1, h1⟩
    · cases z
    rcases set_get? h2 with ⟨_, z, _⟩ | ⟨e2, h2⟩
    · cases z
    exact g.sep j k _ _ c h1 h2 h3 h4
/-- ahead of a block -/
theorem dss_frz {i : Nat} {sts : List Stmt} {A : SS} (h : PSs X sts (tS b W A)) : PSs X sts (tS b W (frzS i A)) := by
  refine ⟨fun pins s σ H D I ⟨G, env, n, g, q⟩ => ?_⟩
  unfold frzS frzEnv at q
  cases hi : env[i]? with
  | none => rw [hi] at q; exact q.elim
  | some sl =>
    rw [hi] at q
    cases sl with
    | no => exact q.elim
    | val d => exact q.elim
    | own d =>
      obtain ⟨a, ea, ga, pa, h0, oa⟩ := g.slots i _ hi
      cases d with
      | lst ds =>
        have q : (A (env.set i (.val (.lst ds)))).All (PostS b G D) (RaiseG b W) n := q
        obtain ⟨vs, hv, rv⟩ := oa
        have hx : ¬ b.ex a := fun x => by
          obtain ⟨_, ⟨C, dx, fs, z⟩, _⟩ := g.exn a x
          rw [hv] at z; cases z
        have hH : upd H a (.lst vs) = H := by
          funext c
          by_cases z : c = a
          · subst z; rw [upd_same, hv]
          · rw [upd_ne z]
        have s1 : Same G (upd G a (.lst vs)) := fun c u q => by rw [upd_ne (show c ≠ a from fun z => by rw [z, ga] at q; cases q)]; exact q
        have g' := g.frz (o := .lst vs) hi ea hx (.lst upd_same (rv.mono s1))
        rw [hH] at g'
        exact h.run pins s σ H D I ⟨_, _, n, g', M.all_mono q (fun r k _ z => PostS.imp s1 z) fun _ _ _ _ q => q⟩
      | dct kds =>
        have q : (A (env.set i (.val (.dct kds)))).All (PostS b G D) (RaiseG b W) n := q
        obtain ⟨kvs, hv, rv⟩ := oa
        have hx : ¬ b.ex a := fun x => by
          obtain ⟨_, ⟨C, dx, fs, z⟩, _⟩ := g.exn a x
          rw [hv] at z; cases z
        obtain ⟨od, I'⟩ := I.lock hv trivial
        have s1 : Same G (upd G a (.frz od (.dK kvs))) := fun c u q => by rw [upd_ne (show c ≠ a from fun z => by rw [z, ga] at q; cases q)]; exact q
        have g' := g.frz (o := .frz od (.dK kvs)) hi ea hx (.dct upd_same (rv.mono s1))
        exact h.run pins s σ _ D I' ⟨_, _, n, g', M.all_mono q (fun r k _ z => PostS.imp s1 z) fun _ _ _ _ q => q⟩
      | _ => exact q.elim
end
end DL

set_option Elab.async false
set_option linter.all false
set_option maxRecDepth 100000
set_option maxHeartbeats 4000000
/-! The data layer: defs that run with no repr about them (so that repr may be asked within). -/
namespace DL
open PySem PySem.Spec L2

/-- room for k calls, and no repr is going on -/
structure RoomG (k : Nat) (A : Around) : Prop where
  room : Room k A
  gd : A.guards = some []
theorem RoomG.mono {j k : Nat} {A : Around} (r : RoomG k A) (h : j ≤ k) : RoomG j A := ⟨r.room.mono h, r.gd⟩
theorem RoomG.deeper {k : Nat} {A : Around} (r : RoomG (k + 1) A) (env : PySem.Env) : RoomG k (A.deeper env) := ⟨r.room.deeper env, r.gd⟩
theorem RoomG.in1 {k : Nat} {A : Around} (r : RoomG (k + 1) A) : RoomG k A.in1 := ⟨r.room.in1, r.gd⟩
theorem noGuard {args : Args} : Code.guards (.builtin "type.__call__" args) = [] := by
  unfold Code.guards
  rw [if_neg (show ¬ (Code.builtin "type.__call__" args).isGuard = true from (by decide +kernel : ¬ (guardIds.contains "type.__call__") = true))]
theorem RoomG.make {k : Nat} {A : Around} (r : RoomG (k + 1) A) (C : Addr) (us : List Value) (kw : List (Str × Value)) : RoomG k (A.under (.builtin "type.__call__" ⟨.ref C :: us, kw⟩)) := by
  refine ⟨r.room.make C us kw, ?_⟩
  unfold Around.under
  dsimp only
  rw [r.gd, noGuard]
  rfl
theorem RoomG.units0 {k : Nat} {A : Around} (r : RoomG k A) : A.units < cLine := r.room.units0
theorem RoomG.hd {k : Nat} {A : Around} (r : RoomG k A) : A.handled = none := r.room.hd
theorem RoomG.depth {k : Nat} {A : Around} (r : RoomG k A) : A.depth < recursionLimit := r.room.depth
theorem hu_of {A : Around} {k : Nat} (hr : RoomG k A) : A.units + 1 < cLine := L2.hu_of hr.room
theorem hu1 {k : Nat} {A : Around} (hr : RoomG k A) : A.units + 1 < cLine := L2.hu_of hr.room
theorem hu64 {k : Nat} {A : Around} (hr : RoomG k A) : A.units + 64 < cLine := hr.room.units
theorem hu66 {k : Nat} {A : Around} (hr : RoomG k A) : A.units + 66 < cLine := by have := hr.room.un; omega

structure FnG (P : Program) (w : World) (K : PySem.W.Frag) (mg : Str → Option Value) (base : Heap) (CX : CXT) (k : Nat) (f : Addr) (fd : FuncData) (ps : List Str) (sp : Sp) : Prop where
  len : ∀ vs H Q E, sp vs H Q E → vs.length = ps.length
  run : ∀ (A : Around) (outer : List PySem.Env) (s : Shared) (H : Hp) (args : Args) (us : List Value) (vs : List V) (Q : VK) (E : XK), RoomG k A → Env0 P w K mg base A outer s H → BindsTo s fd args (ps.zip us) → Vals vs us → sp vs H Q E →
    codeAny (model P w) A (.call (.ref f) args) (CR CX outer P w H s Q E) s
/-- positional arguments -/
def FnRG (P : Program) (w : World) (K : PySem.W.Frag) (mg : Str → Option Value) (base : Heap) (CX : CXT) (k : Nat) (f : Addr) (sp : Sp) : Prop :=
  ∀ (A : Around) (outer : List PySem.Env) (s : Shared) (H : Hp) (us : List Value) (vs : List V) (Q : VK) (E : XK), RoomG k A → Env0 P w K mg base A outer s H → Vals vs us → sp vs H Q E → codeAny (model P w) A (.call (.ref f) ⟨us, []⟩) (CR CX outer P w H s Q E) s
/-- a def whose promise speaks of the moment at which it is called -/
def FnS (P : Program) (w : World) (K : PySem.W.Frag) (mg : Str → Option Value) (base : Heap) (CX : CXT) (k : Nat) (f : Addr) (fd : FuncData) (ps : List Str) (sp : Nat → Sp) : Prop :=
  ∀ (A : Around) (outer : List PySem.Env) (s : Shared) (H : Hp) (args : Args) (us : List Value) (vs : List V) (Q : VK) (E : XK), RoomG k A → Env0 P w K mg base A outer s H → BindsTo s fd args (ps.zip us) → Vals vs us → vs.length = ps.length → sp s.heap.objs.size vs H Q E →
    codeAny (model P w) A (.call (.ref f) args) (CR CX outer P w H s Q E) s
section
variable {P : Program} {w : World} {K : PySem.W.Frag} {mg : Str → Option Value} {base : Heap}
theorem fnS_of {x qual : Str} {st : Stmt} {f : Addr} {fd : FuncData} {N ps : List Str} {k : Nat} {sp : Nat → Sp} (F : L2.Fun K x qual st f fd) (S : FnScope N ps (defScope st))
    (hbody : ∀ (cdv : Value) (A : Around) (outer : List PySem.Env) (s : Shared) (H : Hp) (vs : List V) (Q : VK) (E : XK), RoomG k (A.deeper (PyProof.Rows.envOfC qual (defScope st) s.heap.objs.size f cdv)) → sp s.heap.objs.size vs H Q E →
      ∃ t, PSs (cxOf (L2.CX P w) P w K mg base N qual (defScope st) f cdv A outer s H E) (defBody st) t ∧ t { nx := fun _ H' => Q .non H', rt := Q } (L2.start N vs) H) : FnS P w K mg base (L2.CX P w) (k + 1) f fd ps sp := by
  obtain ⟨oc, od, kV, doc, pm, an, cdv, ct, osl, rfl, lk, hcd⟩ := F.ex
  intro A outer s H args us vs Q E hr e0 hb r hl hsp
  have KX : K.In s.heap := e0.mod.kin.keeps fun b o e => (e0.bs b o e).1
  have lim : s.heap.NoLimit := e0.mod.nolimit.keeps fun b o e => (e0.bs b o e).1
  have hkind : ∀ y ∈ ps.zip us, (defScope st).names.lookup y.1 = some .local ∨ ((defScope st).names.lookup y.1 = some .cell ∧ ((PySem.cellsFrom (s.heap.objs.size + 1) (defScope st).names []).lookup y.1).isSome = true) := fun ⟨n, v⟩ hy => by
    rcases S.par n (List.of_mem_zip hy).1 with q | q
    · exact .inl q
    · exact .inr ⟨q, PySem.W.cellsFrom_some _ _ _ (.inl q)⟩
  refine codeAny_call_function hr.depth (KX _ _ lk) rfl S.co S.gen rfl (PySem.W.codeRec_of KX hcd) (hb _ _ _ _ ?_)
  refine wpAny_newFunctionEnv_cells S.kind hkind fun env he s1 x => ?_
  subst he
  refine ⟨lim.keeps x.toInCall.keep, codeAny_func ?_⟩
  obtain ⟨t, ht, hq⟩ := hbody cdv A outer s H vs Q E (hr.deeper _) hsp
  have I : Inv (cxOf (L2.CX P w) P w K mg base N qual (defScope st) f cdv A outer s H E) [] (L2.start N vs) H s1 := inv_start S hr.hd e0 hl r x
  refine wpAny_mono (ht.run [] s1 (L2.start N vs) H _ I hq) (fun fl s' hs => ?_) fun e s' hs => hs
  have fin : ∀ {σ' : L2.St} {H' : Hp} {v : V} {u : Value}, Inv (cxOf (L2.CX P w) P w K mg base N qual (defScope st) f cdv A outer s H E) [] σ' H' s' → RelV v u → Q v H' → CE outer P w H s Q u s' :=
    fun {σ' H' v u} J rv q => ⟨v, H', J.os, J.bare, J.base, J.hok, rv, q⟩
  cases fl with
  | ret u =>
    obtain ⟨v, σ', H', J, rv, q⟩ := hs
    exact fin J rv q
  | next =>
    obtain ⟨σ', H', J, q⟩ := hs
    exact fin (v := V.non) (u := Value.none) J rfl q
  | brk =>
    obtain ⟨_, _, _, q⟩ := hs
    exact False.elim q
  | cont =>
    obtain ⟨_, _, _, q⟩ := hs
    exact False.elim q
theorem okG {x qual : Str} {st : Stmt} {f : Addr} {fd : FuncData} {N ps : List Str} {k : Nat} {sp : Sp} (F : L2.Fun K x qual st f fd) (S : FnScope N ps (defScope st)) (len : ∀ vs H Q E, sp vs H Q E → vs.length = ps.length)
    (hbody : ∀ (cdv : Value) (A : Around) (outer : List PySem.Env) (s : Shared) (H : Hp) (vs : List V) (Q : VK) (E : XK), RoomG k (A.deeper (PyProof.Rows.envOfC qual (defScope st) s.heap.objs.size f cdv)) → sp vs H Q E →
      ∃ t, PSs (cxOf (L2.CX P w) P w K mg base N qual (defScope st) f cdv A outer s H E) (defBody st) t ∧ t { nx := fun _ H' => Q .non H', rt := Q } (L2.start N vs) H) : FnG P w K mg base (L2.CX P w) (k + 1) f fd ps sp :=
  ⟨len, fun A outer s H args us vs Q E hr e0 hb r hsp => fnS_of (sp := fun _ => sp) F S (fun cdv A outer s H vs Q E hr h => hbody cdv A outer s H vs Q E hr h) A outer s H args us vs Q E hr e0 hb r (len _ _ _ _ hsp) hsp⟩
/-- def f(a, .., *v) -/
theorem fn_starG {x qual pv : Str} {st : Stmt} {f : Addr} {fd : FuncData} {N ps : List Str} {k : Nat} {sp : Sp} (F : L2.Fun K x qual st f fd) (S : FnScope N (ps ++ [pv]) (defScope st))
    (hb : ∀ (kV doc pm : Value) (an : Option Addr) (cdv ct : Value) (us rest : List Value), us.length = ps.length → bindArgs (PySem.W.fnOf x qual (defArgs st) (defBody st) (defScope st) .none kV doc pm an cdv ct) ⟨us ++ rest, []⟩ = (newTuple rest >>= fun t => pure (ps.zip us ++ [(pv, t)])))
    (hbody : ∀ (cdv : Value) (A : Around) (outer : List PySem.Env) (s : Shared) (H : Hp) (vs : List V) (Q : VK) (E : XK), RoomG k (A.deeper (PyProof.Rows.envOfC qual (defScope st) s.heap.objs.size f cdv)) → sp vs H Q E →
      ∃ t, PSs (cxOf (L2.CX P w) P w K mg base N qual (defScope st) f cdv A outer s H E) (defBody st) t ∧ t { nx := fun _ H' => Q .non H', rt := Q } (L2.start N vs) H) :
    FnRG P w K mg base (L2.CX P w) (k + 1) f (fun vs H Q E => ∃ ws rest, vs = ws ++ rest ∧ ws.length = ps.length ∧ rest.length ≤ sizeLine ∧ ∀ p, H p = none → sp (ws ++ [V.ref p]) (upd H p (.tup rest)) Q E) := by
  obtain ⟨oc, od, kV, doc, pm, an, cdv, ct, osl, rfl, lk, hcd⟩ := F.ex
  intro A outer s H us vs Q E hr e0 r hsp
  obtain ⟨ws, rest, ev, hl, hz, hq⟩ := hsp
  subst ev
  obtain ⟨u1, u2, eu, r1, r2⟩ := StX.vals_split r
  subst eu
  have hn : H s.heap.objs.size = none := e0.hok.fresh (Nat.le_refl _)
  have hl1 : u1.length = ps.length := by rw [← r1.length]; exact hl
  have hl2 : u2.length ≤ sizeLine := by rw [← r2.length]; exact hz
  have KX : K.In s.heap := e0.mod.kin.keeps fun b o e => (e0.bs b o e).1
  refine codeAny_call_function hr.depth (KX _ _ lk) rfl S.co S.gen rfl (PySem.W.codeRec_of KX hcd) ?_
  rw [hb kV doc pm an cdv ct u1 u2 hl1]
  refine wpAny_bind (wpAny_newTuple (wpAny_pure ?_) hl2)
  have new : ObjOk P w (upd H s.heap.objs.size (.tup rest)) (s.heap.push ({ cls := .type "tuple", data := .seq u2.toArray } : Obj)) s.heap.objs.size (.tup rest) := ⟨hz, u2, r2, ⟨_, Heap.get?_push_size _ rfl, rfl, _, rfl⟩⟩
  have un := StX.un_laid (fs := frs outer) (s := s) (o := ({ cls := .type "tuple", data := .seq u2.toArray } : Obj)) (u := .tup rest) hn
  have e2 := StX.env0_laid e0 new
  have z2 : Vals (ws ++ [V.ref s.heap.objs.size]) (u1 ++ [Value.ref s.heap.objs.size]) := r1.append (.cons rfl .nil)
  have hl3 : (ws ++ [V.ref s.heap.objs.size]).length = (ps ++ [pv]).length := by rw [List.length_append, List.length_append, hl] <;> rfl
  have ez : ps.zip u1 ++ [(pv, Value.ref s.heap.objs.size)] = (ps ++ [pv]).zip (u1 ++ [Value.ref s.heap.objs.size]) := by rw [List.zip_append hl1.symm] <;> rfl
  rw [ez]
  generalize hs2 : ({ s with heap := s.heap.push { cls := .type "tuple", data := .seq u2.toArray } } : Shared) = s2 at e2 un
  have lim : s2.heap.NoLimit := e2.mod.nolimit.keeps fun b o e => (e2.bs b o e).1
  have hkind : ∀ y ∈ (ps ++ [pv]).zip (u1 ++ [Value.ref s.heap.objs.size]), (defScope st).names.lookup y.1 = some .local ∨ ((defScope st).names.lookup y.1 = some .cell ∧ ((PySem.cellsFrom (s2.heap.objs.size + 1) (defScope st).names []).lookup y.1).isSome = true) := fun y hy => by
    rcases S.par y.1 (List.of_mem_zip hy).1 with q | q
    · exact .inl q
    · exact .inr ⟨q, PySem.W.cellsFrom_some _ _ _ (.inl q)⟩
  have hos : s2.os = s.os := by rw [← hs2]
  have hxx : ∀ e s', L2.CX P w outer (upd H s.heap.objs.size (.tup rest)) s2 E e s' → L2.CX P w outer H s E e s' := fun e s' => StX.cxUp outer s H s2 _ E e s' (by rw [← hs2]; exact un) (fun b o q => by rw [← hs2]; exact Heap.get?_push_of_some _ q) hos
  refine wpAny_newFunctionEnv_cells (s := s2) S.kind hkind fun env he s1 x => ?_
  subst he
  refine ⟨lim.keeps x.toInCall.keep, codeAny_func ?_⟩
  obtain ⟨t, ht, hq'⟩ := hbody cdv A outer s2 (upd H s.heap.objs.size (.tup rest)) (ws ++ [V.ref s.heap.objs.size]) Q E (hr.deeper _) (hq _ hn)
  have I : Inv (cxOf (L2.CX P w) P w K mg base N qual (defScope st) f cdv A outer s2 (upd H s.heap.objs.size (.tup rest)) E) [] (L2.start N (ws ++ [V.ref s.heap.objs.size])) _ s1 := inv_start S hr.hd e2 hl3 z2 x
  refine wpAny_mono (ht.run [] s1 _ _ _ I hq') (fun fl s' hs => ?_) fun e s' hs => ?_
  · have fin : ∀ {σ' : L2.St} {H' : Hp} {v' : V} {u' : Value}, Inv (cxOf (L2.CX P w) P w K mg base N qual (defScope st) f cdv A outer s2 (upd H s.heap.objs.size (.tup rest)) E) [] σ' H' s' → RelV v' u' → Q v' H' → CE outer P w H s Q u' s' :=
      fun {σ' H' v' u'} J rv' q => ⟨v', H', J.os.trans hos, J.bare, (show Un (frs outer) [] H (upd H s.heap.objs.size (.tup rest)) s.heap s2.heap by rw [← hs2]; exact un).trans J.base, J.hok, rv', q⟩
    cases fl with
    | ret u' =>
      obtain ⟨v', σ', H', J, rv', q⟩ := hs
      exact fin J rv' q
    | next =>
      obtain ⟨σ', H', J, q⟩ := hs
      exact fin (v' := V.non) (u' := Value.none) J rfl q
    | brk =>
      obtain ⟨_, _, _, q⟩ := hs
      exact False.elim q
    | cont =>
      obtain ⟨_, _, _, q⟩ := hs
      exact False.elim q
  · exact wpAny_mono hs (fun _ s'' z => hxx e s'' z) fun e' s'' z => hxx e' s'' z
end

section
variable {X : Cx} {CX : CXT} {k : Nat} {f C : Addr} {fd : FuncData} {ps : List Str} {sp : Sp} {dvs : List V} {ds : List Value} {E : XK} {x m : Str} {p pos apos : Pos} {e o : Expr} {es : List Expr} {ta : TE} {t : TA}
/-- the callee runs at a place within -/
theorem run_fnA {A : Around} {pins : List (Addr × Obj)} {σ : L2.St} {H : Hp} {s : Shared} {Q : VK} {us : List Value} {vs : List V} (F : FnG X.prog X.w X.K X.mg X.base CX k f fd ps sp) (hr : RoomG k A) (hA : A.frames = X.A.frames) (hb : Binds X.K fd ps []) (hx : Passes CX X E)
    (I : Inv X pins σ H s) (r : Vals vs us) (h : sp vs H Q E) : wpAny (model X.prog X.w) A (call (.ref f) us) (EP X pins σ Q) X.xe s := by
  have e0 : Env0 X.prog X.w X.K X.mg X.base A X.stack s H := by
    have e := I.env0
    exact ⟨by rw [hA]; exact e.frames, e.mod, e.bs, e.bsz, e.funs, e.frf, e.hok, e.bare⟩
  have hl := F.len _ _ _ _ h
  refine wpAny_call (codeAny_mono (F.run A X.stack s H ⟨us, []⟩ us vs Q E hr e0 (by
    have := hb s us I.kIn (by rw [List.append_nil, ← r.length]; exact hl)
    rw [List.append_nil] at this
    exact this) r h) fun r s' hq => ?_)
  cases r with
  | error e => exact hx pins σ H s e s' I hq
  | ok fl =>
    cases fl with
    | ret w => exact I.after hq
    | next => exact False.elim hq
    | brk => exact False.elim hq
    | cont => exact False.elim hq
theorem run_fn {pins : List (Addr × Obj)} {σ : L2.St} {H : Hp} {s : Shared} {Q : VK} {us : List Value} {vs : List V} (F : FnG X.prog X.w X.K X.mg X.base CX k f fd ps sp) (hr : RoomG k X.A) (hb : Binds X.K fd ps ds) (hd : Vals dvs ds) (hx : Passes CX X E)
    (I : Inv X pins σ H s) (r : Vals vs us) (h : sp (vs ++ dvs) H Q E) : wpAny (model X.prog X.w) X.A (call (.ref f) us) (EP X pins σ Q) X.xe s := by
  have r2 : Vals (vs ++ dvs) (us ++ ds) := r.append hd
  have hl : (us ++ ds).length = ps.length := by rw [← r2.length]; exact F.len _ _ _ _ h
  refine wpAny_call (codeAny_mono (F.run X.A X.stack s H ⟨us, []⟩ (us ++ ds) (vs ++ dvs) Q E hr I.env0 (hb s us I.kIn hl) r2 h) fun r s' hq => ?_)
  cases r with
  | error e => exact hx pins σ H s e s' I hq
  | ok fl =>
    cases fl with
    | ret u => exact I.after hq
    | next => exact False.elim hq
    | brk => exact False.elim hq
    | cont => exact False.elim hq
theorem run_fnN {n : Nat} {ks : List Str} {g : List Value → List Value → List Value} {gV : List V → List V → List V} {pins : List (Addr × Obj)} {σ : L2.St} {H : Hp} {s : Shared} {Q : VK} {us ws : List Value} {vs zs : List V} (F : FnG X.prog X.w X.K X.mg X.base CX k f fd ps sp) (hr : RoomG k X.A) (hb : KBn X.K fd ps n ks g gV) (hx : Passes CX X E)
    (I : Inv X pins σ H s) (r : Vals vs us) (rz : Vals zs ws) (l1 : vs.length = n) (l2 : zs.length = ks.length) (h : sp (gV vs zs) H Q E) : wpAny (model X.prog X.w) X.A (call (.ref f) us (ks.zip ws)) (EP X pins σ Q) X.xe s := by
  have r2 := hb.rel r rz
  refine wpAny_call (codeAny_mono (F.run X.A X.stack s H ⟨us, ks.zip ws⟩ (g us ws) (gV vs zs) Q E hr I.env0 (hb.to s us ws I.kIn (r.length.symm.trans l1) (rz.length.symm.trans l2)) r2 h) fun r s' hq => ?_)
  cases r with
  | error e => exact hx pins σ H s e s' I hq
  | ok fl =>
    cases fl with
    | ret u => exact I.after hq
    | next => exact False.elim hq
    | brk => exact False.elim hq
    | cont => exact False.elim hq
theorem pe_call (F : FnG X.prog X.w X.K X.mg X.base CX k f fd ps sp) (hr : RoomG k X.A) (hg : Gl X x) (hm : X.mg x = some (.ref f)) (hk : PySem.W.keepIn X.K (.ref f) = true) (hb : Binds X.K fd ps ds) (hd : Vals dvs ds) (hx : Passes CX X E)
    (ha : PA X (e :: es) t) (hdb : (x == ("__debug__" : Str)) = false := by decide) (he : starEach (e :: es) X.env = (false, eval e X.env) :: starEach es X.env := by rfl) (hpl : (backTo pos (starEach es X.env)).any (·.1) = false := by rfl) :
    PE X (.Call (.Name x p) (e :: es) [] pos) (tCall sp dvs E t) := by
  refine ⟨fun pins s σ H Q I h => ?_⟩
  refine wpAny_Call_Name_kw (ld_glob I hg hm ?_ hdb)
  refine PySem.W.callWith_K (h₀ := X.base) I.ok.mod.kin hk (thn (ha.run pos pins s σ H _ I h) fun us s1 ⟨vs, H1, I1, r, q⟩ => ⟨I1.kIn, ?_⟩) he hpl
  exact run_fn F hr hb hd hx I1 r q
theorem pe_call0 (F : FnG X.prog X.w X.K X.mg X.base CX k f fd ps sp) (hr : RoomG k X.A) (hg : Gl X x) (hm : X.mg x = some (.ref f)) (hk : PySem.W.keepIn X.K (.ref f) = true) (hb : Binds X.K fd ps ds) (hd : Vals dvs ds) (hx : Passes CX X E)
    (hdb : (x == ("__debug__" : Str)) = false := by decide) : PE X (.Call (.Name x p) [] [] pos) (tCall sp dvs E tNil) := by
  refine ⟨fun pins s σ H Q I h => ?_⟩
  refine wpAny_Call_Name_kw (ld_glob I hg hm ?_ hdb)
  exact PySem.W.callWith_K0 I.kIn hk (run_fn (us := []) F hr hb hd hx I .nil h)
theorem pe_meth {pl : Sem Bool} (he : PE X o ta) (c : Cls X.K C) (hm : Meth X.K C m f) (F : FnG X.prog X.w X.K X.mg X.base CX k f fd ps sp) (hr : RoomG k X.A) (hb : Binds X.K fd ps ds) (hd : Vals dvs ds) (hx : Passes CX X E) (ha : PA X (e :: es) t)
    (hst : starEach (e :: es) X.env = (false, eval e X.env) :: starEach es X.env := by rfl) (hpl : (backTo pos (starEach es X.env)).any (·.1) = false := by rfl)
    (ht : eval (.Call (.Attribute o m apos) (e :: es) [] pos) X.env = (do
      let ov ← eval o X.env
      standAt apos.atName
      let (f, first) ← holding [ov] (getMethod ov m pl)
      callWith pos f first (backTo pos (starEach (e :: es) X.env)) (backToKw pos (keywordEach [] X.env))) := by rfl) :
    PE X (.Call (.Attribute o m apos) (e :: es) [] pos) (tMeth C m sp dvs E ta t) := by
  refine ⟨fun pins s σ H Q I h => ?_⟩
  refine PySem.W.methodCall_KW (pl := pl) (thn (he.run pins s σ H _ I h) fun u s1 ⟨x, H1, I1, rx, a, dx, fs, ex, ea, l, q⟩ => ?_) ht
  subst ex
  obtain rfl : u = Value.ref a := rx
  refine getmeth_ok I1 ea c hm l ?_
  refine PySem.W.callWith_K (first := [.ref a]) (h₀ := X.base) I.ok.mod.kin hm.kp (thn (ha.run pos pins s1 σ H1 _ I1 q) fun us s2 ⟨vs, H2, I2, r, q2⟩ => ⟨I2.kIn, ?_⟩) hst hpl
  exact run_fn (us := .ref a :: us) (vs := .ref a :: vs) F hr hb hd hx I2 (.cons rfl r) q2
theorem pe_meth0 {pl : Sem Bool} (he : PE X o ta) (c : Cls X.K C) (hm : Meth X.K C m f) (F : FnG X.prog X.w X.K X.mg X.base CX k f fd ps sp) (hr : RoomG k X.A) (hb : Binds X.K fd ps ds) (hd : Vals dvs ds) (hx : Passes CX X E)
    (ht : eval (.Call (.Attribute o m apos) [] [] pos) X.env = (do
      let ov ← eval o X.env
      standAt apos.atName
      let (f, first) ← holding [ov] (getMethod ov m pl)
      callWith pos f first (backTo pos (starEach [] X.env)) (backToKw pos (keywordEach [] X.env))) := by rfl) :
    PE X (.Call (.Attribute o m apos) [] [] pos) (tMeth C m sp dvs E ta tNil) := by
  refine ⟨fun pins s σ H Q I h => ?_⟩
  refine PySem.W.methodCall_KW (pl := pl) (thn (he.run pins s σ H _ I h) fun u s1 ⟨x, H1, I1, rx, a, dx, fs, ex, ea, l, q⟩ => ?_) ht
  subst ex
  obtain rfl : u = Value.ref a := rx
  refine getmeth_ok I1 ea c hm l ?_
  exact PySem.W.callWith_K0 (first := [.ref a]) I1.kIn hm.kp (run_fn (us := [.ref a]) (vs := [.ref a]) F hr hb hd hx I1 (.cons rfl .nil) q)
/-- making: the __init__ runs -/
theorem run_makeR {pins : List (Addr × Obj)} {σ : L2.St} {H : Hp} {s : Shared} {Q : VK} {us : List Value} {vs : List V} (Mm : Mk X.K C f) (F : FnRG X.prog X.w X.K X.mg X.base CX k f sp) (hr : RoomG (k + 1) X.A) (hx : Passes CX X E) (I : Inv X pins σ H s) (r : Vals vs us)
    (h : ∀ x dx, H x = none → H dx = none → dx ≠ x → sp (V.ref x :: vs) (upd (upd H dx (.own x)) x (.ins C dx [])) (fun v H2 => v = .non ∧ Q (.ref x) H2) E) :
    wpAny (model X.prog X.w) X.A (call (.ref C) us) (EP X pins σ Q) X.xe s := by
  have hq := h (s.heap.objs.size + 1) s.heap.objs.size (I.hok.fresh (Nat.le_succ _)) (I.hok.fresh (Nat.le_refl _)) (Nat.ne_of_lt (Nat.lt_succ_self _))
  have I2 := Inv.made (C := C) I
  have r2 : Vals (V.ref (s.heap.objs.size + 1) :: vs) (Value.ref (s.heap.objs.size + 1) :: us) := .cons rfl r
  refine wpAny_call (make_map (f := f) I.kIn Mm.makes Mm.init (beq_iff_eq.mp Mm.fn) (codeAny_mono (F _ X.stack _ _ (Value.ref (s.heap.objs.size + 1) :: us) _ _ E (hr.make C us []) (I2.env0.make C us []) r2 hq) fun r s' hq' => ?_))
  cases r with
  | error e => exact hx pins σ _ _ e s' I2 hq'
  | ok fl =>
    cases fl with
    | ret u =>
      obtain ⟨v, H', I3, rv, ev, q3⟩ := I2.after hq'
      subst ev
      exact ⟨rv, ⟨V.ref (s.heap.objs.size + 1), H', I3, rfl, q3⟩⟩
    | next => exact False.elim hq'
    | brk => exact False.elim hq'
    | cont => exact False.elim hq'
theorem FnG.toRG (F : FnG X.prog X.w X.K X.mg X.base CX k f fd ps sp) (hb : Binds X.K fd ps []) : FnRG X.prog X.w X.K X.mg X.base CX k f sp := fun A outer s H us vs Q E hr e0 r hsp => by
  have hl := F.len _ _ _ _ hsp
  have KX : X.K.In s.heap := e0.mod.kin.keeps fun b o e => (e0.bs b o e).1
  refine F.run A outer s H ⟨us, []⟩ us vs Q E hr e0 ?_ r hsp
  have := hb s us KX (by rw [List.append_nil, ← r.length]; exact hl)
  rw [List.append_nil] at this
  exact this
theorem pe_makeR (Mm : Mk X.K C f) (F : FnRG X.prog X.w X.K X.mg X.base CX k f sp) (hr : RoomG (k + 1) X.A) (hg : Gl X x) (hm : X.mg x = some (.ref C)) (hx : Passes CX X E) (ha : PA X (e :: es) t) (hdb : (x == ("__debug__" : Str)) = false := by decide)
    (he : starEach (e :: es) X.env = (false, eval e X.env) :: starEach es X.env := by rfl) (hpl : (backTo pos (starEach es X.env)).any (·.1) = false := by rfl) : PE X (.Call (.Name x p) (e :: es) [] pos) (StX.tMakeR C sp E t) := by
  refine ⟨fun pins s σ H Q I h => ?_⟩
  refine wpAny_Call_Name_kw (ld_glob I hg hm ?_ hdb)
  refine PySem.W.callWith_K (h₀ := X.base) I.ok.mod.kin Mm.kp (thn (ha.run pos pins s σ H _ I h) fun us s1 ⟨vs, H1, I1, r, q⟩ => ⟨I1.kIn, ?_⟩) he hpl
  exact run_makeR Mm F hr hx I1 r q
theorem pe_makeR0 (Mm : Mk X.K C f) (F : FnRG X.prog X.w X.K X.mg X.base CX k f sp) (hr : RoomG (k + 1) X.A) (hg : Gl X x) (hm : X.mg x = some (.ref C)) (hx : Passes CX X E) (hdb : (x == ("__debug__" : Str)) = false := by decide) : PE X (.Call (.Name x p) [] [] pos) (StX.tMakeR C sp E tNil) := by
  refine ⟨fun pins s σ H Q I h => ?_⟩
  refine wpAny_Call_Name_kw (ld_glob I hg hm ?_ hdb)
  exact PySem.W.callWith_K0 I.kIn Mm.kp (run_makeR (us := []) Mm F hr hx I .nil h)
/-- repr(x), x a list or a tuple of flat data -/
def rRepr (K : PySem.W.Frag) : List V → Hp → VK → Prop := fun xs H Q => ∃ (a : Addr) (d : PyData), xs = [.ref a] ∧ Dp K H (.ref a) d ∧ d.showable = true ∧ d.hasDict = false ∧ d.depth ≤ 64 ∧ d.shown.length ≤ sizeLine ∧ Q (.str d.shown) H
theorem call_repr (hr : RoomG k X.A) : CallR X (.builtin "repr") (rRepr X.K) := by
  intro pins s σ H xs us Q I r ⟨a, d, ex, hd, h1, h2, h3, h4, q⟩
  subst ex
  obtain ⟨u, rfl, ru⟩ := vals1 r
  obtain rfl : u = Value.ref a := ru
  obtain ⟨as, rd⟩ := Dp.reads I d _ _ hd rfl
  refine repr_of_reads' rd h1 (PyData.noDict_hsm h2) hr.gd (by have := hu66 hr; omega) (fun _ _ e => e) (fun h' u tk hk => ?_) h4
  exact ⟨.str d.shown, H, I.kept (t' := tk) hk, ⟨_, rfl⟩, q⟩
end
end DL
namespace L2
open PySem PySem.Spec PyProof.Rows
/-- the law's own call -/
theorem law_callG {P : Program} {w : World} {K : PySem.W.Frag} {mg mb : Str → Option Value} {CX : CXT} {k : Nat} {fa a : Addr} {fd : FuncData} {x : Str} {sp : Sp} {s₁ : Shared} {vs : List Value} {ns : List Int}
    (KX : K.In s₁.heap) (hns : s₁.heap.Ns mainGlobals mg) (hb : s₁.heap.Ns builtinsNs mb) (hbb : ∀ x : Str, x ≠ "__name__" → mb x = bootBuiltins x) (hlim : s₁.heap.NoLimit) (hg : s₁.gens = #[])
    (ha : s₁.heap.get? a = some { cls := .type "list", data := .seq vs.toArray }) (hi : IntsAre vs ns) (hl : ns.length ≤ sizeLine) (hr : DL.RoomG k callerA)
    (F : ∀ base : Heap, K.In base → base.Ns mainGlobals mg → DL.FnG P w K mg base CX k fa fd [x] sp) (hbind : ∀ (s : Shared) (u : Value), BindsTo s fd ⟨[u], []⟩ [(x, u)])
    (hsp : ∀ H : Hp, Only H → SqL K H a (ns.map V.int) → sp [.ref a] H (fun v _ => v = .bl true) fun _ _ _ => False)
    (hCX : ∀ H e s', CX [] H s₁ (fun _ _ _ => False) e s' → False) :
    codeAny (model P w) callerA (.call (.ref fa) ⟨[.ref a], []⟩) (fun r s' => r = .ok (.ret (.bool true)) ∧ OldK s₁.heap s'.heap ∧ s'.os = s₁.os ∧ AllBare s'.gens) s₁ := by
  have rv := vals_ints hi
  have lenV := hi.length
  have core : ∀ H : Hp, Only H → SqL K H a (ns.map V.int) → HOk P w H s₁.heap → (∀ b, H b ≠ none → b = a) → (H a ≠ none → K.lookup a = none) →
      codeAny (model P w) callerA (.call (.ref fa) ⟨[.ref a], []⟩) (fun r s' => r = .ok (.ret (.bool true)) ∧ OldK s₁.heap s'.heap ∧ s'.os = s₁.os ∧ AllBare s'.gens) s₁ := by
    intro H hO hS hok hA hK
    have base_of : ∀ {b : Addr} {o : Obj}, s₁.heap.get? b = some o → H b = none → (hidT s₁.heap H).get? b = some o := fun e n => hidT_get e n
    have noA : ∀ {b : Addr} {o : Obj} {es : Array DictEntry} {ep : Nat}, s₁.heap.get? b = some o → o.data = .dict es ep → H b = none := fun {b o es ep} e d => by
      cases q : H b with
      | none => rfl
      | some u =>
        have e' : b = a := hA b (by rw [q]; simp)
        subst e'
        rw [ha] at e; cases e
        have d' : Data.seq vs.toArray _ = Data.dict es ep := d
        cases d'
    have nsK : ∀ {b : Addr} {m : Str → Option Value}, s₁.heap.Ns b m → (hidT s₁.heap H).Ns b m := fun {b m} ⟨o, es, ep, e, d, r⟩ => ⟨o, es, ep, base_of e (noA e d), d, r⟩
    have hKb : K.In (hidT s₁.heap H) := fun b o e => base_of (KX b o e) (by
      cases q : H b with
      | none => rfl
      | some u =>
        have e' : b = a := hA b (by rw [q]; simp)
        subst e'
        rw [hK (by rw [q]; simp)] at e; cases e)
    have hM : L2.Mod K mg (hidT s₁.heap H) := ⟨hKb, nsK hns, ⟨mb, nsK hb, hbb⟩, let ⟨mc, h1, h2⟩ := hlim; ⟨mc, nsK h1, h2⟩⟩
    have e0 : Env0 P w K mg (hidT s₁.heap H) callerA [] s₁ H := ⟨rfl, hM, fun b o e => of_hidT e, Nat.le_of_eq (hidT_size _ _), trivial, fun b hb => absurd (show b ∈ ([] : List Addr) from hb) (by simp), hok, .of_eq hg⟩
    refine codeAny_mono ((F _ hKb (nsK hns)).run callerA [] s₁ H ⟨[.ref a], []⟩ [.ref a] [.ref a] _ _ hr e0 (hbind s₁ (.ref a)) (.cons rfl .nil) (hsp H hO hS)) fun r s' h => ?_
    cases r with
    | error e => exact (hCX H e s' h).elim
    | ok fl =>
      cases fl with
      | next => exact False.elim h
      | brk => exact False.elim h
      | cont => exact False.elim h
      | ret u =>
        obtain ⟨v, H', os, bare, un, hok', r', q⟩ := h
        have q' : v = .bl true := q
        subst q'
        obtain rfl : u = Value.bool true := r'
        refine ⟨rfl, OldK.of_keep fun b o e => ?_, os, bare⟩
        cases q : H b with
        | none => exact un.keep b o e q (by intro z; exact absurd (show b ∈ ([] : List Addr) from z) (by simp)) (by simp)
        | some u =>
          rcases hO b with z | ⟨ob, xs, z⟩
          · rw [q] at z; cases z
          · have z2 := un.frzs b ob _ z
            obtain ⟨e1, _⟩ := hok b _ z
            obtain ⟨e2, _⟩ := hok' b _ z2
            rw [e] at e1; cases e1
            exact e2
  cases hk : K.lookup a with
  | some o =>
    have e := KX a o hk
    rw [ha] at e
    cases e
    refine core (fun _ => none) (fun _ => .inl rfl) (.inr ⟨_, vs.toArray, _, hk, rfl, rfl, rfl, by rw [List.size_toArray, lenV]; exact hl, by simpa using rv⟩) (fun b u z => by have z' : (none : Option HO) = some u := z; cases z') (fun b z => absurd rfl z) fun z => absurd rfl z
  | none =>
    refine core (fun b => if b = a then some (.frz { cls := .type "list", data := .seq vs.toArray } (.lst (ns.map V.int))) else none) (fun b => ?_) (.inl (.inr ⟨{ cls := .type "list", data := .seq vs.toArray }, if_pos rfl⟩)) (fun b u z => ?_) (fun b z => ?_) fun _ => hk
    · by_cases hb : b = a
      · exact .inr ⟨_, _, if_pos hb⟩
      · exact .inl (if_neg hb)
    · by_cases hb : b = a
      · have z' := (if_pos hb).symm.trans z
        cases z'
        subst hb
        exact ⟨ha, by rw [List.length_map]; exact hl, vs, _, rv, ha⟩
      · have z' := (if_neg hb).symm.trans z
        cases z'
    · by_cases hb : b = a
      · exact hb
      · exact absurd (if_neg hb) z
theorem walk_ofG {l : PySem.W.OpenLaw} {n k : Nat} {q : Program} {loose : List Str} {XP : (Str → Option Value) → Heap → Prop} {YP : World → Heap → Prop} {d : DefRec} {K : Params → PySem.W.Frag} {CX : World → CXT} {sp : World → Sp} {x : Str}
    (hn : l.most = some n) (hn2 : n ≤ sizeLine) (hdf : d.params.defaults = []) (hr : DL.RoomG k callerA)
    (hY : ∀ (w : World) (h : Heap), YP w h → (K w.params).In h)
    (F : ∀ (w : World) (mg : Str → Option Value) (fa : Addr) (h : Heap), (K w.params).In h → h.Ns mainGlobals mg → mg d.name = some (.ref fa) →
      ∃ fd : FuncData, (∀ (s : Shared) (u : Value), BindsTo s fd ⟨[u], []⟩ [(x, u)]) ∧
        ∀ base : Heap, (K w.params).In base → base.Ns mainGlobals mg → DL.FnG l.prog w (K w.params) mg base (CX w) k fa fd [x] (sp w))
    (hsp : ∀ (w : World) (H : Hp) (a : Addr) (ns : List Int), ns.length ≤ n → Only H → SqL (K w.params) H a (ns.map V.int) → sp w [.ref a] H (fun v _ => v = .bl true) fun _ _ _ => False)
    (hCX : ∀ (w : World) (H : Hp) (s : Shared) (e : Value) (s' : Shared), CX w [] H s (fun _ _ _ => False) e s' → False) :
    PySem.W.WalkO q loose XP YP l.row.toRowW d [] (fun f vs => PySem.call f vs) := by
  refine Att.attach_call hn hdf fun w s₀ s₁ mg mb fa o pm cd doc a vs ns G Y ho hd hcd hmg hobj hints hlen hg => ?_
  have KX := hY w _ Y
  obtain ⟨fd, hb, hF⟩ := F w mg fa _ KX G.T.g hmg
  exact law_callG KX G.T.g G.T.b G.T.builtins G.T.nolimit hg hobj hints (Nat.le_trans hlen hn2) hr hF hb (fun H hO hS => hsp w H a ns hlen hO hS) fun H e s' => hCX w H s₁ e s'
end L2

set_option Elab.async false
set_option linter.all false
set_option maxRecDepth 100000
set_option maxHeartbeats 4000000
/-! The data layer: defs and their calls. -/
namespace DL
open PySem PySem.Spec L2

/-- what is wished of what is raised, behind a call -/
def RaiseC (b : Bx) (W : XK) (G H : Hp) : Str → List (Str × D) → Nat → Prop := fun c fs n' => ∀ C dx vs G' H', Step b.pn G H G' H' n' → b.mg c = some (.ref C) → G' dx = some (.xd vs) → b.RepF G' vs fs → W (.ref C) (some dx) H'
abbrev Fn := List D → M D
/-- a call by values: the pure function -/
def rD (K : PySem.W.Frag) (mg : Str → Option Value) (m : Nat) (F : Fn) (vs : List V) (H : Hp) (Q : VK) (W : XK) : Prop :=
  ∃ (b : Bx) (G : Hp) (ds : List D) (n : Nat), b.K = K ∧ b.mg = mg ∧ vs.length = m ∧ Same G H ∧ PenOk b.pn G H n ∧ b.RepL G vs ds ∧ (F ds).All (PostD b G H Q) (RaiseC b W G H) n
def spD (K : PySem.W.Frag) (mg : Str → Option Value) (m : Nat) (F : Fn) : Sp := fun vs H Q W => rD K mg m F vs H Q W
def envOf (m : Nat) (ds : List D) : PEnv := ds.map .val ++ List.replicate (m - ds.length) .no
def endD (r : Fl × PEnv) : M D := match r.1 with
  | .rt d => .ret d
  | .nx => .ret .non
  | _ => .fail
/-- a body as a function; m: how many slots -/
def runS (m : Nat) (A : SS) : Fn := fun ds => (A (envOf m ds)).bind endD

theorem good_start {b : Bx} {N : List Str} {G H : Hp} {vs : List V} {ds : List D} {n : Nat} (hG : b.G0 = G) (hH : b.H0 = H) (hx : ∀ a, ¬ b.ex a) (s : Same G H) (p : PenOk b.pn G H n) (r : b.RepL G vs ds) : Good b G H (L2.start N vs) (envOf N.length ds) n where
  le := s
  base := by rw [hG]; exact Same.refl G
  fresh := fun a h _ => by rw [← hG]; exact h
  ext := fun a o h _ _ => by rw [← hH]; exact h
  pen := p
  len := by
    unfold envOf L2.start
    rw [List.length_append, List.length_append, List.length_map, List.length_map, List.length_replicate, List.length_replicate, r.length]
  slots := fun i sl e => by
    unfold envOf at e
    unfold L2.start
    have hl := r.length
    by_cases hi : i < ds.length
    · rw [List.getElem?_append_left (by simpa using hi), List.getElem?_map] at e
      rw [List.getElem?_append_left (by simp; omega), List.getElem?_map]
      cases ed : ds[i]? with
      | none => rw [ed] at e; cases e
      | some d =>
        rw [ed] at e
        cases e
        obtain ⟨v, ev, rv⟩ := r.getD ed
        exact ⟨v, by rw [ev]; rfl, rv⟩
    · rw [List.getElem?_append_right (by simp; omega), List.getElem?_replicate] at e
      split at e
      · cases e; trivial
      · cases e
  exn := fun a h => absurd h (hx a)
  sep := fun i j d e a h1 _ _ _ => by
    unfold envOf at h1
    by_cases hi : i < ds.length
    · rw [List.getElem?_append_left (by simpa using hi), List.getElem?_map] at h1
      cases ed : ds[i]? with
      | none => rw [ed] at h1; cases h1
      | some d => rw [ed] at h1; cases h1
    · rw [List.getElem?_append_right (by simp; omega), List.getElem?_replicate] at h1
      split at h1 <;> cases h1

section
variable {P : Program} {w : World} {K : PySem.W.Frag} {mg : Str → Option Value} {base : Heap}
/-- a def by its body's pure function -/
theorem fnD {x qual : Str} {st : Stmt} {f : Addr} {fd : FuncData} {N ps : List Str} {k : Nat} {B : SS} (F : L2.Fun K x qual st f fd) (S : FnScope N ps (defScope st))
    (body : ∀ (cdv : Value) (A : Around) (outer : List PySem.Env) (s : Shared) (H : Hp) (E : XK) (b : Bx), RoomG k (A.deeper (PyProof.Rows.envOfC qual (defScope st) s.heap.objs.size f cdv)) → b.K = K → b.mg = mg →
      PSs (cxOf (L2.CX P w) P w K mg base N qual (defScope st) f cdv A outer s H E) (defBody st) (tS b E B)) : FnG P w K mg base (L2.CX P w) (k + 1) f fd ps (spD K mg ps.length (runS N.length B)) := by
  refine okG F S (fun vs H Q E h => ?_) (fun cdv A outer s H vs Q E hr h => ?_)
  · obtain ⟨_, _, _, _, _, _, hl, _⟩ := h
    exact hl
  · obtain ⟨b0, G, ds, n, hK, hM, hl, s1, p1, r1, q⟩ := h
    refine ⟨_, body cdv A outer s H E ⟨K, mg, b0.pn, G, H, fun _ => False⟩ hr rfl rfl, G, envOf N.length ds, n, good_start rfl rfl (fun _ z => z) s1 p1 (by subst hK hM; exact r1), ?_⟩
    subst hK hM
    refine M.all_mono (M.all_bind q) (fun r n' _ z G' H' σ' s' g' => ?_) fun c fs n' _ z C dx vs G' H' σ' env' g' h1 h2 h3 => ?_
    · have st : Step b0.pn G H G' H' n' := ⟨s', g'.le, g'.fresh, fun a o e p => g'.ext a o e p (fun z => z), g'.pen⟩
      obtain ⟨fl, env'⟩ := r
      cases fl with
      | nx => exact z .non G' H' st .non
      | bk => exact z.elim
      | ct => exact z.elim
      | rt d => exact fun v rv => z v G' H' st rv
    · exact z C dx vs G' H' ⟨g'.base, g'.le, g'.fresh, fun a o e p => g'.ext a o e p (fun z => z), g'.pen⟩ h1 h2 h3

/-- a def of the module under its name, by its pure function -/
structure Cal (P : Program) (w : World) (K : PySem.W.Frag) (mg : Str → Option Value) (base : Heap) (k : Nat) (x : Str) (ps : List Str) (F : Fn) : Prop where
  ex : ∃ (f : Addr) (fd : FuncData), FnG P w K mg base (L2.CX P w) k f fd ps (spD K mg ps.length F) ∧ mg x = some (.ref f) ∧ PySem.W.keepIn K (.ref f) = true ∧ Binds K fd ps []
/-- a method of the class named c -/
structure Met (P : Program) (w : World) (K : PySem.W.Frag) (mg : Str → Option Value) (base : Heap) (k : Nat) (c m : Str) (ps : List Str) (F : Fn) : Prop where
  ex : ∃ (C f : Addr) (fd : FuncData), mg c = some (.ref C) ∧ Cls K C ∧ Meth K C m f ∧ FnG P w K mg base (L2.CX P w) k f fd ps (spD K mg ps.length F) ∧ Binds K fd ps []
end

section
variable {X : Cx} {b : Bx} {W : XK} {e a c : Expr} {Fa Fb F : SE} {L : SL} {pos : Pos} {k j : Nat}
theorem pass0 {X : Cx} : Passes (L2.CX X.prog X.w) X W0 := passL
theorem passT {X : Cx} {E : XK} (tk : Takes X (fun c d _ H => E c d H)) : Passes (L2.CX X.prog X.w) X E := fun _ _ _ _ _ _ I c => tk _ _ (XE.of_call I (fun _ _ _ h => h) c)
/-- how a pure function is used in an expression -/
theorem use_rD {m : Nat} {G H : Hp} {σ : L2.St} {env : PEnv} {n : Nat} {Q : VK} {Fn : Fn} {vs : List V} {ds : List D} (g : Good b G H σ env n) (hl : vs.length = m) (r : b.RepL G vs ds) (q : (Fn ds).All (PostD b G H Q) (RaiseG b W) n) : rD b.K b.mg m Fn vs H Q W :=
  ⟨b, G, ds, n, rfl, rfl, hl, g.le, g.pen, r, M.all_mono q (fun _ _ _ z => z) fun c fs n' _ z C dx us G' H' st h1 h2 h3 => z C dx us G' H' σ env (g.step st) h1 h2 h3⟩
def lenL {α : Type} (m : Nat) (ds : List D) (x : M α) : M α := if ds.length = m then x else .fail
theorem lenL_all {α : Type} {m : Nat} {ds : List D} {x : M α} {P : α → Nat → Prop} {R : Str → List (Str × D) → Nat → Prop} {n : Nat} (h : (lenL m ds x).All P R n) : ds.length = m ∧ x.All P R n := by
  unfold lenL at h
  split at h
  · exact ⟨by assumption, h⟩
  · exact h.elim
def callE (m : Nat) (Fn : Fn) (L : SL) : SE := fun env => (L env).bind fun ds => lenL m ds (Fn ds)
theorem PostD.trans {G H G1 H1 : Hp} {n1 : Nat} {Q : VK} (st : Step b.pn G H G1 H1 n1) {d : D} {k : Nat} (h : PostD b G H Q d k) : PostD b G1 H1 Q d k := fun v G' H' s r => h v G' H' (st.tr s) r
theorem de_c {mm : Nat} {x : Str} {p : Pos} {es : List Expr} {ps : List Str} {Fn : Fn} (c : Cal X.prog X.w X.K X.mg X.base k x ps Fn) (hK : X.K = b.K) (hM : X.mg = b.mg) (hx : Passes (L2.CX X.prog X.w) X W) (hr : RoomG j X.A) (hk : k ≤ j) (hg : Gl X x) (ha : PA X (e :: es) (tL b W L))
    (hdb : (x == ("__debug__" : Str)) = false := by decide) (he : starEach (e :: es) X.env = (false, eval e X.env) :: starEach es X.env := by rfl) (hpl : (backTo pos (starEach es X.env)).any (·.1) = false := by rfl) (hmm : ps.length = mm := by rfl) : PE X (.Call (.Name x p) (e :: es) [] pos) (tD b W (callE mm Fn L)) := by
  subst hmm
  obtain ⟨f, fd, F, hm, kp, hb⟩ := c.ex
  refine (pe_call F (hr.mono hk) hg hm kp hb .nil hx ha hdb he hpl).imp fun σ H Q ⟨G, env, n, g, q⟩ => ?_
  refine tl_bind (R := RaiseG b W) g q fun vs ds G1 H1 n1 s1 r1 q1 g1 => ?_
  obtain ⟨hl, q2⟩ := lenL_all q1
  rw [List.append_nil]
  show rD X.K X.mg ps.length Fn vs H1 Q W
  rw [hK, hM]
  exact use_rD g1 (r1.length.trans hl) r1 (M.all_mono q2 (fun d k _ z => PostD.trans s1 z) fun _ _ _ _ z => z)
theorem de_c0 {x : Str} {p : Pos} {Fn : Fn} (c : Cal X.prog X.w X.K X.mg X.base k x [] Fn) (hK : X.K = b.K) (hM : X.mg = b.mg) (hx : Passes (L2.CX X.prog X.w) X W) (hr : RoomG j X.A) (hk : k ≤ j) (hg : Gl X x)
    (hdb : (x == ("__debug__" : Str)) = false := by decide) : PE X (.Call (.Name x p) [] [] pos) (tD b W fun _ => Fn []) := by
  obtain ⟨f, fd, F, hm, kp, hb⟩ := c.ex
  refine (pe_call0 F (hr.mono hk) hg hm kp hb .nil hx hdb).imp fun σ H Q ⟨G, env, n, g, q⟩ => ?_
  show rD X.K X.mg 0 Fn [] H Q W
  rw [hK, hM]
  exact use_rD g rfl .nil q
/-- o.m(..), o an instance of the class named c -/
def methE (c m : Str) (k : Nat) (Fn : Fn) (R : SE) (L : SL) : SE := fun env => (R env).bind fun r => match r with
  | .ins c' fs => if c' = c ∧ fs.lookup m = none then (L env).bind fun ds => lenL k (r :: ds) (Fn (r :: ds)) else .fail
  | _ => .fail
theorem de_mt {mm : Nat} {c m : Str} {o : Expr} {apos : Pos} {es : List Expr} {ps : List Str} {Fn : Fn} {R : SE} {pl : Sem Bool} (cm : Met X.prog X.w X.K X.mg X.base k c m ps Fn) (hK : X.K = b.K) (hM : X.mg = b.mg) (hx : Passes (L2.CX X.prog X.w) X W) (hr : RoomG j X.A) (hk : k ≤ j) (ho : PE X o (tD b W R)) (ha : PA X (e :: es) (tL b W L))
    (hst : starEach (e :: es) X.env = (false, eval e X.env) :: starEach es X.env := by rfl) (hpl : (backTo pos (starEach es X.env)).any (·.1) = false := by rfl)
    (ht : eval (.Call (.Attribute o m apos) (e :: es) [] pos) X.env = (do
      let ov ← eval o X.env
      standAt apos.atName
      let (f, first) ← holding [ov] (getMethod ov m pl)
      callWith pos f first (backTo pos (starEach (e :: es) X.env)) (backToKw pos (keywordEach [] X.env))) := by rfl) (hmm : ps.length = mm := by rfl) : PE X (.Call (.Attribute o m apos) (e :: es) [] pos) (tD b W (methE c m mm Fn R L)) := by
  subst hmm
  obtain ⟨C, f, fd, hC, hc, hm, F, hb⟩ := cm.ex
  refine (pe_meth (pl := pl) ho hc hm F (hr.mono hk) hb .nil hx ha hst hpl ht).imp fun σ H Q ⟨G, env, n, g, q⟩ => ?_
  refine td_bind (R := RaiseG b W) g q fun v d G1 H1 n1 s1 r1 q1 g1 => ?_
  cases r1 with
  | @ins a C' dx fs gs c' hm' hg' hr' =>
    replace q1 : (if c' = c ∧ gs.lookup m = none then (L env).bind fun ds => lenL ps.length (.ins c' gs :: ds) (Fn (.ins c' gs :: ds)) else .fail).All (PostD b G H Q) (RaiseG b W) n1 := q1
    by_cases hcc : c' = c ∧ gs.lookup m = none
    · rw [if_pos hcc] at q1
      obtain ⟨rfl, hlk⟩ := hcc
      have eC : C' = C := by
        rw [← hM, hC] at hm'
        cases hm'; rfl
      subst eC
      refine ⟨a, dx, fs, rfl, g1.le _ _ hg', hr'.lookupN hlk, tl_bind (R := RaiseG b W) g1 q1 fun vs ds G2 H2 n2 s2 r2 q2 g2 => ?_⟩
      obtain ⟨hl, q3⟩ := lenL_all q2
      rw [List.append_nil]
      show rD X.K X.mg ps.length Fn _ H2 Q W
      rw [hK, hM]
      refine use_rD g2 (by rw [List.length_cons, r2.length]; exact hl) (.cons (.ins hm' (s2.gg _ _ hg') (hr'.mono s2.gg)) r2) (M.all_mono q3 (fun d k _ z => PostD.trans (s1.tr s2) z) fun _ _ _ _ z => z)
    · rw [if_neg hcc] at q1; exact q1.elim
  | _ => exact q1.elim
theorem de_mt0 {mm : Nat} {c m : Str} {o : Expr} {apos : Pos} {ps : List Str} {Fn : Fn} {R : SE} {pl : Sem Bool} (cm : Met X.prog X.w X.K X.mg X.base k c m ps Fn) (hK : X.K = b.K) (hM : X.mg = b.mg) (hx : Passes (L2.CX X.prog X.w) X W) (hr : RoomG j X.A) (hk : k ≤ j) (ho : PE X o (tD b W R))
    (ht : eval (.Call (.Attribute o m apos) [] [] pos) X.env = (do
      let ov ← eval o X.env
      standAt apos.atName
      let (f, first) ← holding [ov] (getMethod ov m pl)
      callWith pos f first (backTo pos (starEach [] X.env)) (backToKw pos (keywordEach [] X.env))) := by rfl) (hmm : ps.length = mm := by rfl) : PE X (.Call (.Attribute o m apos) [] [] pos) (tD b W (methE c m mm Fn R nilL)) := by
  subst hmm
  obtain ⟨C, f, fd, hC, hc, hm, F, hb⟩ := cm.ex
  refine (pe_meth0 (pl := pl) ho hc hm F (hr.mono hk) hb .nil hx ht).imp fun σ H Q ⟨G, env, n, g, q⟩ => ?_
  refine td_bind (R := RaiseG b W) g q fun v d G1 H1 n1 s1 r1 q1 g1 => ?_
  cases r1 with
  | @ins a C' dx fs gs c' hm' hg' hr' =>
    replace q1 : (if c' = c ∧ gs.lookup m = none then (nilL env).bind fun ds => lenL ps.length (.ins c' gs :: ds) (Fn (.ins c' gs :: ds)) else .fail).All (PostD b G H Q) (RaiseG b W) n1 := q1
    by_cases hcc : c' = c ∧ gs.lookup m = none
    · rw [if_pos hcc] at q1
      obtain ⟨rfl, hlk⟩ := hcc
      have eC : C' = C := by
        rw [← hM, hC] at hm'
        cases hm'; rfl
      subst eC
      refine ⟨a, dx, fs, rfl, g1.le _ _ hg', hr'.lookupN hlk, ?_⟩
      obtain ⟨hl, q3⟩ := lenL_all q1
      show rD X.K X.mg ps.length Fn _ H1 Q W
      rw [hK, hM]
      refine use_rD g1 hl (.cons (.ins hm' hg' hr') .nil) (M.all_mono q3 (fun d k _ z => PostD.trans s1 z) fun _ _ _ _ z => z)
    · rw [if_neg hcc] at q1; exact q1.elim
  | _ => exact q1.elim
end
end DL

set_option Elab.async false
set_option linter.all false
set_option maxRecDepth 100000
set_option maxHeartbeats 4000000
/-! The data layer: isinstance, constants of the module, two at once, borrowing. -/
namespace DL
open PySem PySem.Spec L2

section
variable {X : Cx} {b : Bx} {W : XK} {e a c : Expr} {Fa Fb F : SE} {L : SL} {pos : Pos} {k j : Nat}
theorem de_gc {x : Str} {v : V} (hg : Gl X x) (h : ∃ u, X.mg x = some u ∧ RelV v u) (hl : isLit v = true := by rfl) (hd : (x == ("__debug__" : Str)) = false := by decide) : PE X (.Name x pos) (tD b W (conE (litD v))) := by
  obtain ⟨u, h1, h2⟩ := h
  exact de_con (pe_glob hg h1 h2 hd) hl

/-! ### isinstance -/
/-- the class of a datum: a built-in one, or one of the module -/
def tyOf : D → Sum String Str
  | .non => .inl "NoneType" | .bl _ => .inl "bool" | .int _ => .inl "int" | .str _ => .inl "str" | .tup _ => .inl "tuple" | .lst _ => .inl "list" | .dct _ => .inl "dict" | .ins c _ => .inr c | .pen => .inl "pen"
/-- an own class whose instances isinstance reads -/
structure TyIns (K : PySem.W.Frag) (C : Addr) : Prop where
  cl : Cls K C
  ha : PySem.W.findIn K (.ref C) "__class__" = some (some (.builtin "object.__class__"))
  hn : PySem.W.specialIn K (.builtin "object.__class__") "__get__" = some (some (.builtin "getset_descriptor.__get__"))
  htk : PySem.W.takesIn K (.builtin "object.__class__") = some true
  hm : PySem.W.mroIn K C (.type "object") = some true
/-- what isinstance tells of each class; tab answers for those that it knows -/
structure IsiTab (K : PySem.W.Frag) (mg : Str → Option Value) (u : Value) (tab : Sum String Str → Option Bool) : Prop where
  bi : ∀ s r, tab (.inl s) = some r → s ≠ "pen" ∧ PySem.W.kitOne K (.type s) u = some r
  ow : ∀ c r, tab (.inr c) = some r → ∀ C, mg c = some (.ref C) → TyIns K C ∧ PySem.W.kitOne K (.ref C) u = some r
theorem tyX_of {G H : Hp} {v : V} {d : D} (s : Same G H) (r : b.Rep G v d) : (∀ n, tyOf d = .inl n → n ≠ "pen" → TyX b.K H v (.type n)) ∧ ∀ c, tyOf d = .inr c → ∃ C, b.mg c = some (.ref C) ∧ (TyIns b.K C → TyX b.K H v (.ref C)) := by
  cases r with
  | non => exact ⟨fun n h _ => by cases h; exact .base .non, fun c h => by cases h⟩
  | bl => exact ⟨fun n h _ => by cases h; exact .base (.bl _), fun c h => by cases h⟩
  | int => exact ⟨fun n h _ => by cases h; exact .base (.int _), fun c h => by cases h⟩
  | str => exact ⟨fun n h _ => by cases h; exact .base (.str _), fun c h => by cases h⟩
  | tup h r =>
    refine ⟨fun n h' _ => ?_, fun c h => by cases h⟩
    cases h'
    rcases sqT_mono s h with (h | ⟨o, h⟩) | ⟨o, its, m, h1, h2, h3⟩
    · exact .base (.tup h)
    · exact .fTuple h
    · exact .kTuple h1 h2
  | lst h r => exact ⟨fun n h' _ => by cases h'; exact .base (.lst (s _ _ h)), fun c h => by cases h⟩
  | dct h r => exact ⟨fun n h' _ => by cases h'; exact .fDict (s _ _ h), fun c h => by cases h⟩
  | ins m h r => exact ⟨fun n h' => (by cases h'), fun c h' => by cases h'; exact ⟨_, m, fun t => .base (.ins (s _ _ h) t.cl t.ha t.hn t.htk t.hm)⟩⟩
  | pen h => exact ⟨fun n h' q => by cases h'; exact absurd rfl q, fun c h => by cases h⟩
theorem isi_use {G H : Hp} {v : V} {d : D} {u : Value} {tab : Sum String Str → Option Bool} {r : Bool} (T : IsiTab b.K b.mg u tab) (s : Same G H) (rv : b.Rep G v d) (h : tab (tyOf d) = some r) : ∃ t, TyX b.K H v t ∧ PySem.W.kitOne b.K t u = some r := by
  obtain ⟨h1, h2⟩ := tyX_of s rv
  cases e : tyOf d with
  | inl n =>
    rw [e] at h
    obtain ⟨k1, k2⟩ := T.bi n r h
    exact ⟨_, h1 n e k1, k2⟩
  | inr c =>
    rw [e] at h
    obtain ⟨C, m, k⟩ := h2 c e
    obtain ⟨k1, k2⟩ := T.ow c r h C m
    exact ⟨_, k k1, k2⟩
theorem isi_use2 {G H : Hp} {v : V} {d : D} {u1 u2 : Value} {f1 f2 : Sum String Str → Option Bool} {r1 r2 : Bool} (T : IsiTab b.K b.mg u1 f1) (T' : IsiTab b.K b.mg u2 f2) (s : Same G H) (rv : b.Rep G v d) (h : f1 (tyOf d) = some r1) (h' : f2 (tyOf d) = some r2) : ∃ t, TyX b.K H v t ∧ PySem.W.kitOne b.K t u1 = some r1 ∧ PySem.W.kitOne b.K t u2 = some r2 := by
  obtain ⟨h1, h2⟩ := tyX_of s rv
  cases e : tyOf d with
  | inl n =>
    rw [e] at h h'
    obtain ⟨k1, k2⟩ := T.bi n r1 h
    exact ⟨_, h1 n e k1, k2, (T'.bi n r2 h').2⟩
  | inr c =>
    rw [e] at h h'
    obtain ⟨C, m, k⟩ := h2 c e
    obtain ⟨k1, k2⟩ := T.ow c r1 h C m
    exact ⟨_, k k1, k2, (T'.ow c r2 h' C m).2⟩
def isiF (tab : Sum String Str → Option Bool) (d : D) : Option D := (tab (tyOf d)).map .bl
/-- isinstance(e, T), T a name for one class -/
theorem de_isi {p : Pos} {T : Expr} {cv : V} {u : Value} {tab : Sum String Str → Option Bool} (hK : X.K = b.K) (hT : IsiTab b.K b.mg u tab) (hu : ClsV cv u) (he : PE X e (tD b W F)) (ht : PE X T (tC cv)) (hg : Gl X "isinstance") (hm : X.mg "isinstance" = none) (hs : starEach [e, T] X.env = (false, eval e X.env) :: starEach [T] X.env := by rfl) (hs2 : starEach [T] X.env = (false, eval T X.env) :: starEach [] X.env := by rfl) (hpl : (backTo pos (starEach [T] X.env)).any (·.1) = false := by rfl) :
    PE X (.Call (.Name "isinstance" p) [e, T] [] pos) (tD b W (un1 (isiF tab) F)) := (pe_callB call_isi hg hm (by decide +kernel) (pa_cons he (pa_cons ht pa_nil hs2) hs) (by decide) (by decide) hs hpl).imp fun σ H Q ⟨G, env, n, g, q⟩ => by
  refine td_bind (R := RaiseG b W) g q fun v d G1 H1 n1 s1 r1 q1 g1 => ?_
  obtain ⟨z, ez, q2⟩ := ofO_all q1
  obtain ⟨r, er, rfl⟩ := Option.map_eq_some_iff.mp ez
  obtain ⟨t, k1, k2⟩ := isi_use hT g1.le r1 er
  exact ⟨v, cv, t, u, r, rfl, hu, hK ▸ k1, hK ▸ k2, q2 _ G1 H1 s1 .bl⟩
def tab2 (f g : Sum String Str → Option Bool) (s : Sum String Str) : Option Bool := match f s, g s with
  | some x, some y => some (x || y)
  | _, _ => none
/-- isinstance(e, (T1, T2)) -/
theorem de_isi2 {p pt : Pos} {x1} {T1 T2 : Expr} {c1 c2 : V} {u1 u2 : Value} {f1 f2 : Sum String Str → Option Bool} (hK : X.K = b.K) (h1 : IsiTab b.K b.mg u1 f1) (h2 : IsiTab b.K b.mg u2 f2) (hu1 : ClsV c1 u1) (hu2 : ClsV c2 u2) (he : PE X e (tD b W F)) (ht1 : PE X T1 (tC c1)) (ht2 : PE X T2 (tC c2)) (hg : Gl X "isinstance") (hm : X.mg "isinstance" = none)
    (hs : starEach [e, .Tuple [T1, T2] x1 pt] X.env = (false, eval e X.env) :: starEach [.Tuple [T1, T2] x1 pt] X.env := by rfl) (hs2 : starEach [.Tuple [T1, T2] x1 pt] X.env = (false, eval (.Tuple [T1, T2] x1 pt) X.env) :: starEach [] X.env := by rfl) (hpl : (backTo pos (starEach [.Tuple [T1, T2] x1 pt] X.env)).any (·.1) = false := by rfl)
    (hs3 : starEach [T1, T2] X.env = (false, eval T1 X.env) :: starEach [T2] X.env := by rfl) (hs4 : starEach [T2] X.env = (false, eval T2 X.env) :: starEach [] X.env := by rfl) :
    PE X (.Call (.Name "isinstance" p) [e, .Tuple [T1, T2] x1 pt] [] pos) (tD b W (un1 (isiF (tab2 f1 f2)) F)) := (pe_callB call_isiT hg hm (by decide +kernel) (pa_cons he (pa_cons (pe_tup (pa_cons ht1 (pa_cons ht2 pa_nil hs4) hs3)) pa_nil hs2) hs) (by decide) (by decide) hs hpl).imp fun σ H Q ⟨G, env, n, g, q⟩ => by
  refine td_bind (R := RaiseG b W) g q fun v d G1 H1 n1 s1 r1 q1 g1 => ?_
  obtain ⟨z, ez, q2⟩ := ofO_all q1
  obtain ⟨r, er, rfl⟩ := Option.map_eq_some_iff.mp ez
  refine ⟨by show 2 ≤ sizeLine; decide, fun tp hp => ?_⟩
  have s2 := Step.newU (o := .tup [c1, c2]) g1.le g1.pen hp
  unfold tab2 at er
  split at er
  · rename_i y1 y2 e1 e2
    cases er
    obtain ⟨t, k1, k2, k3⟩ := isi_use2 h1 h2 s2.gh r1 e1 e2
    refine ⟨v, tp, [c1, c2], t, [u1, u2], y1 || y2, rfl, upd_same, .cons hu1 (.cons hu2 .nil), hK ▸ k1, ?_, q2 _ G1 _ (s1.tr s2) .bl⟩
    refine kitAny_cons (hK ▸ k2) (fun ez => ?_) (fun ez => by rw [ez]; rfl)
    subst ez
    rw [Bool.false_or]
    exact kitAny_cons (hK ▸ k3) (fun ez => by subst ez; rfl) (fun ez => ez)
  · cases er
def negF : D → Option D
  | .int i => some (.int (-i))
  | _ => none
theorem de_neg (he : PE X a (tD b W F)) : PE X (.UnaryOp .USub a pos) (tD b W (un1 negF F)) := (pe_un un_neg he).imp fun σ H Q ⟨G, env, n, g, q⟩ => by
  refine td_bind (R := RaiseG b W) g q fun v d G1 H1 n1 s1 r1 q1 g1 => ?_
  obtain ⟨z, ez, q2⟩ := ofO_all q1
  cases r1 with
  | @int i => cases ez; exact ⟨i, rfl, q2 _ G1 H1 s1 .int⟩
  | _ => cases ez
/-! ### comparisons as tests -/
theorem ttest_use {t : TE} {Fx : SE} (hi : ∀ σ H Q, tD b W Fx σ H Q → t σ H Q) {σ : L2.St} {H : Hp} {Q : Bool → Hp → Prop} (h : tT b W (boolT Fx) σ H Q) : t σ H fun x H1 => ∃ k, x = .bl k ∧ Q k H1 := by
  obtain ⟨G, env, n, g, q⟩ := h
  refine hi _ _ _ (td_bind (R := RaiseG b W) g q fun v d G1 H1 n1 s1 r1 q1 g1 => ?_)
  obtain ⟨k, ek, q2⟩ := ofO_all q1
  cases asB_some ek
  cases r1
  exact ⟨k, rfl, q2 _ _ s1⟩
theorem dt_cmp {op : CmpOp} {r : R2} {f : D → D → Option D} (ho : OpR X (compareOp op) r) (hf : OpD b r f) (ha : PE X a (tD b W Fa)) (hb : PE X c (tD b W Fb)) (hm : behindInMarks op c = false := by first | exact nobehind _ (by decide) (by decide) | rfl) : PT X (.Compare a [op] [c] pos) (tT b W (boolT (opE f Fa Fb))) :=
  (pt_cmpR ho ha hb hm).imp fun _ _ _ h => ttest_use (fun _ _ _ z => top_use hf z) h
theorem dt_eq (hK : X.K = b.K) (hu : X.A.units + 64 < cLine) (ha : PE X a (tD b W Fa)) (hb : PE X c (tD b W Fb)) : PT X (.Compare a [.Eq] [c] pos) (tT b W (boolT (opE eqD Fa Fb))) := dt_cmp (OpR.or op_eq (op_eqD hu)) (od_eqS.orElse (hK ▸ od_eqP)) ha hb
theorem dt_ne (hK : X.K = b.K) (hu : X.A.units + 64 < cLine) (ha : PE X a (tD b W Fa)) (hb : PE X c (tD b W Fb)) : PT X (.Compare a [.NotEq] [c] pos) (tT b W (boolT (opE neD Fa Fb))) := dt_cmp (OpR.or op_ne (op_neD hu)) (od_neS.orElse (hK ▸ od_neP)) ha hb
theorem dt_lt (ha : PE X a (tD b W Fa)) (hb : PE X c (tD b W Fb)) : PT X (.Compare a [.Lt] [c] pos) (tT b W (boolT (opE ltD Fa Fb))) := dt_cmp op_lt od_cmpI ha hb
theorem dt_le (ha : PE X a (tD b W Fa)) (hb : PE X c (tD b W Fb)) : PT X (.Compare a [.LtE] [c] pos) (tT b W (boolT (opE leD Fa Fb))) := dt_cmp op_le od_cmpI ha hb
theorem dt_gt (ha : PE X a (tD b W Fa)) (hb : PE X c (tD b W Fb)) : PT X (.Compare a [.Gt] [c] pos) (tT b W (boolT (opE gtD Fa Fb))) := dt_cmp op_gt od_cmpI ha hb
theorem dt_ge (ha : PE X a (tD b W Fa)) (hb : PE X c (tD b W Fb)) : PT X (.Compare a [.GtE] [c] pos) (tT b W (boolT (opE geD Fa Fb))) := dt_cmp op_ge od_cmpI ha hb
theorem dt_in (hK : X.K = b.K) (hu : X.A.units + 1 < cLine) (ha : PE X a (tD b W Fa)) (hb : PE X c (tD b W Fb)) (hm : behindInMarks .In c = false := by rfl) : PT X (.Compare a [.In] [c] pos) (tT b W (boolT (opE inD Fa Fb))) := dt_cmp (op_inAll hu) (in_sound hK) ha hb hm
theorem dt_nin (hK : X.K = b.K) (hu : X.A.units + 1 < cLine) (ha : PE X a (tD b W Fa)) (hb : PE X c (tD b W Fb)) (hm : behindInMarks .NotIn c = false := by rfl) : PT X (.Compare a [.NotIn] [c] pos) (tT b W (boolT (opE ninD Fa Fb))) := dt_cmp (op_ninAll hu) (in_sound hK) ha hb hm
theorem dt_isN {j pos'} (ha : PE X a (tD b W F)) : PT X (.Compare a [.Is] [.Constant .none j pos'] pos) (tT b W (boolT (isNE F))) := (pt_cmp (pc_isN ha)).imp fun _ _ _ h => ttest_use (fun σ H Q ⟨G, env, n, g, q⟩ =>
  td_bind (R := RaiseG b W) g q fun v d G1 H1 n1 s1 r1 q1 g1 => by rw [isN_rep r1]; exact q1 _ G1 H1 s1 .bl) h
theorem dt_notN {j pos'} (ha : PE X a (tD b W F)) : PT X (.Compare a [.IsNot] [.Constant .none j pos'] pos) (tT b W (boolT (notNE F))) := (pt_cmp (pc_notN ha)).imp fun _ _ _ h => ttest_use (fun σ H Q ⟨G, env, n, g, q⟩ =>
  td_bind (R := RaiseG b W) g q fun v d G1 H1 n1 s1 r1 q1 g1 => by rw [isN_rep r1]; exact q1 _ G1 H1 s1 .bl) h
end
end DL

set_option Elab.async false
set_option linter.all false
set_option maxRecDepth 100000
set_option maxHeartbeats 4000000
/-! The data layer: chains of comparisons, displays of dicts, two at once, borrowing. -/
namespace DL
open PySem PySem.Spec L2

section
variable {X : Cx} {b : Bx} {W : XK} {e a c : Expr} {Fa Fb F : SE} {L : SL} {pos : Pos} {k j : Nat}
def chainE (f f' : D → D → Option D) (Fa Fb F : SE) : SE := fun env => (Fa env).bind fun x => (Fb env).bind fun y => (M.ofO (f x y)).bind fun z => (M.ofO (asB z)).bind fun k => if k = true then (F env).bind fun w => .ofO (f' y w) else .ret (.bl false)
theorem tchain_use {r r' : R2} {f f' : D → D → Option D} (hf : OpD b r f) (hf' : OpD b r' f') {σ : L2.St} {H : Hp} {Q : VK} (h : tD b W (chainE f f' Fa Fb F) σ H Q) : tChain r r' (tD b W Fa) (tD b W Fb) (tD b W F) σ H Q := by
  obtain ⟨G, env, n, g, q⟩ := h
  refine td_bind (R := RaiseG b W) g q fun v d G1 H1 n1 s1 r1 q1 g1 => td_bind (R := RaiseG b W) g1 q1 fun u d2 G2 H2 n2 s2 r2 q2 g2 => ?_
  obtain ⟨z, ez, q3⟩ := ofO_all (M.all_bind q2)
  obtain ⟨k, ek, q4⟩ := ofO_all (M.all_bind q3)
  cases asB_some ek
  refine hf g2.le g2.pen (r1.mono s2.gg) r2 ez fun w G3 H3 s3 r3 => ?_
  cases r3
  refine ⟨k, rfl, ?_⟩
  cases k with
  | true =>
    simp only [if_true] at q4 ⊢
    refine td_bind (R := RaiseG b W) (g2.step s3) q4 fun w d4 G4 H4 n4 s4 r4 q5 g4 => ?_
    obtain ⟨z5, e5, q6⟩ := ofO_all q5
    exact hf' g4.le g4.pen (r2.mono (s3.gg.trans s4.gg)) r4 e5 fun v5 G5 H5 s5 r5 => q6 v5 G5 H5 ((((s1.tr s2).tr s3).tr s4).tr s5) r5
  | false =>
    simp only [Bool.false_eq_true, if_false] at q4 ⊢
    exact q4 _ G3 H3 ((s1.tr s2).tr s3) .bl
theorem dc_chain {op op' : CmpOp} {r r' : R2} {f f' : D → D → Option D} (ho : OpR X (compareOp op) r) (hf : OpD b r f) (ho' : OpR X (compareOp op') r') (hf' : OpD b r' f') (ha : PE X a (tD b W Fa)) (hb : PE X c (tD b W Fb)) (he : PE X e (tD b W F)) (h1 : lastMarks [op, op'] [c, e] = false := by rfl) :
    PE X (.Compare a [op, op'] [c, e] pos) (tD b W (chainE f f' Fa Fb F)) := (pe_chain ho ho' ha hb he h1).imp fun _ _ _ h => tchain_use hf hf' h
theorem dt_chain {op op' : CmpOp} {r r' : R2} {f f' : D → D → Option D} (ho : OpR X (compareOp op) r) (hf : OpD b r f) (ho' : OpR X (compareOp op') r') (hf' : OpD b r' f') (ha : PE X a (tD b W Fa)) (hb : PE X c (tD b W Fb)) (he : PE X e (tD b W F)) (h1 : lastMarks [op, op'] [c, e] = false := by rfl) :
    PT X (.Compare a [op, op'] [c, e] pos) (tT b W (boolT (chainE f f' Fa Fb F))) := (pt_chain ho ho' ha hb he h1).imp fun _ _ _ h => ttest_use (fun _ _ _ z => tchain_use hf hf' z) h

/-! ### displays of dicts -/
abbrev SPs := List (SE × SE)
def pairsM : SPs → PEnv → M (List (Key × D))
  | [], _ => .ret []
  | (K, V) :: r, env => (K env).bind fun kd => (V env).bind fun d => (M.ofO (asKey kd)).bind fun k => (pairsM r env).bind fun ps => .ret ((k, d) :: ps)
def tPs (b : Bx) (W : XK) (ps : SPs) : List (TE × TE) := ps.map fun p => (tD b W p.1, tD b W p.2)
theorem tpairs_use : ∀ {ps : SPs} {G H : Hp} {σ : L2.St} {env : PEnv} {n : Nat} {Q : List (V × V) → Hp → Prop}, Good b G H σ env n →
    (pairsM ps env).All (fun kds n' => ∀ kvs G' H', Step b.pn G H G' H' n' → b.RepK G' kvs kds → Q (kvs.map fun kv => (kV kv.1, kv.2)) H') (RaiseG b W) n → tPairs (tPs b W ps) σ H Q
  | [], G, H, σ, env, n, Q, g, q => q [] G H (Step.refl g.le g.pen) .nil
  | (K, V) :: r, G, H, σ, env, n, Q, g, q => by
    show tD b W K σ H fun x H1 => tD b W V σ H1 fun y H2 => tPairs (tPs b W r) σ H2 fun ps H3 => Q ((x, y) :: ps) H3
    refine td_bind (R := RaiseG b W) g q fun v kd G1 H1 n1 s1 r1 q1 g1 => td_bind (R := RaiseG b W) g1 q1 fun u d G2 H2 n2 s2 r2 q2 g2 => ?_
    obtain ⟨key, ek, q3⟩ := ofO_all (M.all_bind q2)
    cases asKey_rep (r1.mono s2.gg) ek
    refine tpairs_use g2 (M.all_mono (M.all_bind q3) (fun kds n3 _ z kvs G3 H3 s3 r3 => ?_) fun _ _ _ _ z => z)
    exact z ((key, u) :: kvs) G3 H3 ((s1.tr s2).tr s3) (.cons (r2.mono s3.gg) r3)
def kmerge (ps : List (Key × D)) : List (Key × D) := ps.foldl (fun acc kv => kput acc kv.1 kv.2) []
theorem RepK.merge {G : Hp} : ∀ {kvs acc : List (Key × V)} {kds acd : List (Key × D)}, b.RepK G acc acd → b.RepK G kvs kds → b.RepK G (kvs.foldl (fun acc kv => putK acc kv.1 kv.2) acc) (kds.foldl (fun acc kv => kput acc kv.1 kv.2) acd)
  | _, _, _, _, ha, .nil => ha
  | _, acc, _, acd, ha, .cons (k := k) (v := v) (d := d) (vs := vs) (ds := ds) r t => RepK.merge (kvs := vs) (acc := putK acc k v) (kds := ds) (acd := kput acd k d) (DL.RepK.put ha r) t
def dctE (ps : SPs) : SE := fun env => (pairsM ps env).bind fun kds => if kds.length ≤ 15 then .ret (.dct (kmerge kds)) else .fail
theorem dps_nil : PPs X pos [] [] (tPs b W []) := pps_nil
theorem dps_cons {k v : Expr} {ks : List (Option Expr)} {vs : List Expr} {A B : SE} {ps : SPs} (hk : PE X k (tD b W A)) (hv : PE X v (tD b W B)) (hr : PPs X pos ks vs (tPs b W ps)) : PPs X pos (some k :: ks) (v :: vs) (tPs b W ((A, B) :: ps)) := pps_cons hk hv hr
theorem df_dict {keys : List (Option Expr)} {values : List Expr} {ps : SPs} (h : PPs X pos keys values (tPs b W ps)) (hall : keys.all (·.isSome) = true := by rfl) (hl : keys.length = values.length := by rfl) (h0 : keys ≠ [] := by exact fun h => nomatch h) (h15 : keys.length ≤ 15 := by decide) : PE X (.Dict keys values pos) (tF b W (dctE ps)) := (pe_disp h hall hl h0 h15).imp fun σ H Q ⟨G, env, n, g, q⟩ p hp => by
  have s0 := Step.newU (o := .dK []) g.le g.pen hp
  refine tpairs_use (g.step s0) (M.all_mono (M.all_bind q) (fun kds n1 _ z kvs G1 H1 s1 r1 => ?_) fun _ _ _ _ z => z)
  have pp : ¬ IsPen b.pn p := fun w => g.pen.there w hp
  have h1 : H1 p = some (.dK []) := s1.hh p _ upd_same pp
  have g1 : G1 p = none := s1.fr p (g.le.free hp) (by rw [upd_same]; intro w; cases w)
  split at z
  · rename_i hz
    refine ⟨h1, kvs, rfl, by rw [r1.length]; exact hz, ?_⟩
    refine z p G1 _ ((s0.tr s1).put hp g1 pp) hp g1 ⟨_, upd_same, RepK.merge .nil r1⟩
  · exact z.elim

/-! ### x, y = a, b -/
def parS (i j : Nat) (L : SL) : SS := fun env => (L env).bind fun ds => match ds with
  | [d, e] => .ret (.nx, (env.set i (.val d)).set j (.val e))
  | _ => .fail
theorem ds_par {i j : Nat} {x y : Str} {px py pt : Pos} {kt k2 : Nat} {pt2 : Pos} (hc : X.calm = true) (hN : X.N.Nodup) (hi : X.N[i]? = some x) (hj : X.N[j]? = some y) (hij : i ≠ j) (hx : X.env.scope.names.lookup x = some .local) (hy : X.env.scope.names.lookup y = some .local) (ha : PA X [a, c] (tL b W L))
    (hw : swappedStores [.Tuple [.Name x px, .Name y py] kt pt] (.Tuple [a, c] k2 pt2) X.env = pure (some [x, y]) := by rfl)
    (hs : swapsWithSole [.Tuple [.Name x px, .Name y py] kt pt] (.Tuple [a, c] k2 pt2) pos.line X.env = pure false := by rfl) : PS X (.Assign [.Tuple [.Name x px, .Name y py] kt pt] (.Tuple [a, c] k2 pt2) pos) (tS b W (parS i j L)) := (ps_par hc hN hi hj hij hx hy ha hw hs).imp fun D σ H ⟨G, env, n, g, q⟩ => by
  refine tl_bind (R := RaiseG b W) g q fun vs ds G1 H1 n1 s1 r1 q1 g1 => ?_
  cases r1 with
  | nil => exact q1.elim
  | cons r1 t1 =>
    cases t1 with
    | nil => exact q1.elim
    | cons r2 t2 =>
      cases t2 with
      | nil => exact ⟨_, _, rfl, q1 G1 H1 _ s1.gg ((g1.setVal r1).setVal r2)⟩
      | cons _ _ => exact q1.elim

/-! ### what is one's own, read for a moment -/
def brwE (i : Nat) (F : SE) : SE := fun env => match env[i]? with
  | some (.own (.lst l)) => (F (env.set i (.val (.lst l)))).bind fun d => if flatD d = true then .ret d else .fail
  | _ => .fail
theorem flat_rep {G G' : Hp} {v : V} {d : D} (h : flatD d = true) (r : b.Rep G v d) : b.Rep G' v d := by
  cases r <;> first | (cases h; done) | skip
  all_goals first | exact .non | exact .bl | exact .int | exact .str
theorem de_brw {i : Nat} (he : PE X e (tD b W F)) : PE X e (tD b W (brwE i F)) := he.imp fun σ H Q ⟨G, env, n, g, q⟩ => by
  unfold brwE at q
  cases hi : env[i]? with
  | none => rw [hi] at q; exact q.elim
  | some sl =>
    rw [hi] at q
    cases sl with
    | no => exact q.elim
    | val d => exact q.elim
    | own d =>
      cases d with
      | lst ds =>
        obtain ⟨a, ea, ga, pa, h0, vs, hv, rv⟩ := g.slots i _ hi
        have hx : ¬ b.ex a := fun x => by
          obtain ⟨_, ⟨C, dx, fs, z⟩, _⟩ := g.exn a x
          rw [hv] at z; cases z
        have hH : upd H a (.lst vs) = H := by
          funext c
          by_cases z : c = a
          · subst z; rw [upd_same, hv]
          · rw [upd_ne z]
        have s1 : Same G (upd G a (.lst vs)) := fun c u q => by rw [upd_ne (show c ≠ a from fun z => by rw [z, ga] at q; cases q)]; exact q
        have g' := g.frz (o := .lst vs) hi ea hx (.lst upd_same (rv.mono s1))
        rw [hH] at g'
        have q : ((F (env.set i (.val (.lst ds)))).bind fun d => if flatD d = true then .ret d else .fail).All (PostD b G H Q) (RaiseG b W) n := q
        refine ⟨_, _, n, g', M.all_mono (M.all_bind q) (fun d n' _ z v G2 H2 s2 r2 => ?_) fun _ _ _ _ z => z⟩
        obtain ⟨hf, z⟩ := if_all z
        refine z v (fun c => if c = a then none else G2 c) H2 ⟨fun c u e => ?_, fun c u e => ?_, fun c e1 e2 => ?_, s2.hh, fun p l e => ?_⟩ (flat_rep hf r2)
        · have : c ≠ a := fun z => by rw [z, ga] at e; cases e
          show (if c = a then none else G2 c) = some u
          rw [if_neg this]
          exact s2.gg c u (s1 c u e)
        · have e : (if c = a then none else G2 c) = some u := e
          split at e
          · cases e
          · exact s2.gh c u e
        · show (if c = a then none else G2 c) = none
          split
          · rfl
          · rename_i hca
            exact s2.fr c (by rw [upd_ne hca]; exact e1) e2
        · obtain ⟨k1, cs, t, f, z1, z2, z3⟩ := s2.pen p l e
          obtain ⟨_, cs', t', f', _, z2', _⟩ := g.pen p l e
          have n1 : p ≠ a := fun w => pa ⟨l, by rw [← w]; exact e⟩
          have n2 : l ≠ a := fun w => by rw [w, ga] at z2'; cases z2'
          exact ⟨by show (if p = a then none else G2 p) = none; rw [if_neg n1]; exact k1, cs, t, f, z1, by show (if l = a then none else G2 l) = _; rw [if_neg n2]; exact z2, z3⟩
      | _ => exact q.elim
def brwT (i : Nat) (T : ST) : ST := fun env => match env[i]? with
  | some (.own (.lst l)) => T (env.set i (.val (.lst l)))
  | _ => .fail
theorem dt_brw {i : Nat} {T : ST} (he : PT X e (tT b W T)) : PT X e (tT b W (brwT i T)) := he.imp fun σ H Q ⟨G, env, n, g, q⟩ => by
  unfold brwT at q
  cases hi : env[i]? with
  | none => rw [hi] at q; exact q.elim
  | some sl =>
    rw [hi] at q
    cases sl with
    | no => exact q.elim
    | val d => exact q.elim
    | own d =>
      cases d with
      | lst ds =>
        obtain ⟨a, ea, ga, pa, h0, vs, hv, rv⟩ := g.slots i _ hi
        have hx : ¬ b.ex a := fun x => by
          obtain ⟨_, ⟨C, dx, fs, z⟩, _⟩ := g.exn a x
          rw [hv] at z; cases z
        have hH : upd H a (.lst vs) = H := by
          funext c
          by_cases z : c = a
          · subst z; rw [upd_same, hv]
          · rw [upd_ne z]
        have s1 : Same G (upd G a (.lst vs)) := fun c u q => by rw [upd_ne (show c ≠ a from fun z => by rw [z, ga] at q; cases q)]; exact q
        have g' := g.frz (o := .lst vs) hi ea hx (.lst upd_same (rv.mono s1))
        rw [hH] at g'
        have q : (T (env.set i (.val (.lst ds)))).All (PostT b G H Q) (RaiseG b W) n := q
        refine ⟨_, _, n, g', M.all_mono q (fun d n' _ z G2 H2 s2 => ?_) fun _ _ _ _ z => z⟩
        refine z (fun c => if c = a then none else G2 c) H2 ⟨fun c u e => ?_, fun c u e => ?_, fun c e1 e2 => ?_, s2.hh, fun p l e => ?_⟩
        · have : c ≠ a := fun z => by rw [z, ga] at e; cases e
          show (if c = a then none else G2 c) = some u
          rw [if_neg this]
          exact s2.gg c u (s1 c u e)
        · have e : (if c = a then none else G2 c) = some u := e
          split at e
          · cases e
          · exact s2.gh c u e
        · show (if c = a then none else G2 c) = none
          split
          · rfl
          · rename_i hca
            exact s2.fr c (by rw [upd_ne hca]; exact e1) e2
        · obtain ⟨k1, cs, t, f, z1, z2, z3⟩ := s2.pen p l e
          obtain ⟨_, cs', t', f', _, z2', _⟩ := g.pen p l e
          have n1 : p ≠ a := fun w => pa ⟨l, by rw [← w]; exact e⟩
          have n2 : l ≠ a := fun w => by rw [w, ga] at z2'; cases z2'
          exact ⟨by show (if p = a then none else G2 p) = none; rw [if_neg n1]; exact k1, cs, t, f, z1, by show (if l = a then none else G2 l) = _; rw [if_neg n2]; exact z2, z3⟩
      | _ => exact q.elim
end
end DL

set_option Elab.async false
set_option linter.all false
set_option maxRecDepth 100000
set_option maxHeartbeats 4000000
/-! The data layer: static methods, keywords, instances made. -/
namespace DL
open PySem PySem.Spec L2

/-- the values at these places -/
def permL {α : Type} (is : List Nat) (l : List α) : List α := is.filterMap fun i => l[i]?
theorem permL_vals {is : List Nat} {vs : List V} {us : List Value} (r : Vals vs us) : Vals (permL is vs) (permL is us) := by
  induction is with
  | nil => exact .nil
  | cons i is ih =>
    unfold permL at ih ⊢
    rw [List.filterMap_cons, List.filterMap_cons]
    cases e : vs[i]? with
    | none => rw [r.none_of e]; exact ih
    | some v =>
      obtain ⟨u, e2, r2⟩ := r.get e
      rw [e2]; exact .cons r2 ih
theorem permL_rep {b : Bx} {G : Hp} {is : List Nat} {vs : List V} {ds : List D} (r : b.RepL G vs ds) : b.RepL G (permL is vs) (permL is ds) := by
  induction is with
  | nil => exact .nil
  | cons i is ih =>
    unfold permL at ih ⊢
    rw [List.filterMap_cons, List.filterMap_cons]
    cases e : vs[i]? with
    | none =>
      have : ds[i]? = none := by rw [List.getElem?_eq_none_iff] at e ⊢; rw [← r.length]; exact e
      rw [this]; exact ih
    | some v =>
      obtain ⟨u, e2, r2⟩ := r.get e
      rw [e2]; exact .cons r2 ih
/-- n values by position, those of the keywords ks: in the parameters' order by is -/
def KwOk (K : PySem.W.Frag) (fd : FuncData) (ps : List Str) (n : Nat) (ks : List Str) (is : List Nat) : Prop :=
  ∀ (s : Shared) (us ws : List Value), us.length = n → ws.length = ks.length → BindsTo s fd ⟨us, ks.zip ws⟩ (ps.zip (permL is (us ++ ws)))
theorem KwOk.bn {K : PySem.W.Frag} {fd : FuncData} {ps : List Str} {n : Nat} {ks : List Str} {is : List Nat} (h : KwOk K fd ps n ks is) : KBn K fd ps n ks (fun us ws => permL is (us ++ ws)) (fun vs zs => permL is (vs ++ zs)) :=
  ⟨fun s us ws _ h1 h2 => h s us ws h1 h2, fun r1 r2 => permL_vals (r1.append r2)⟩
section
variable {P : Program} {w : World} {K : PySem.W.Frag} {mg : Str → Option Value} {base : Heap}
/-- a static method, reached through the class named c -/
structure SMet (P : Program) (w : World) (K : PySem.W.Frag) (mg : Str → Option Value) (base : Heap) (k : Nat) (c m : Str) (ps : List Str) (F : Fn) : Prop where
  ex : ∃ (C p f : Addr) (mc : Value) (fd : FuncData), mg c = some (.ref C) ∧ ClX.CRead K C mc ∧ PySem.W.findCls K (.ref C) mc m = some (.get (.builtin "staticmethod.__get__") (.ref p) .none (.ref C)) ∧ (∃ rest, PySem.W.recIn K p "staticmethod" = some (.ref f :: rest)) ∧
    PySem.W.keepIn K (.ref f) = true ∧ FnG P w K mg base (L2.CX P w) k f fd ps (spD K mg ps.length F) ∧ Binds K fd ps []
structure SMetK (P : Program) (w : World) (K : PySem.W.Frag) (mg : Str → Option Value) (base : Heap) (k : Nat) (c m : Str) (ps ks : List Str) (is : List Nat) (F : Fn) : Prop where
  ex : ∃ (C p f : Addr) (mc : Value) (fd : FuncData), mg c = some (.ref C) ∧ ClX.CRead K C mc ∧ PySem.W.findCls K (.ref C) mc m = some (.get (.builtin "staticmethod.__get__") (.ref p) .none (.ref C)) ∧ (∃ rest, PySem.W.recIn K p "staticmethod" = some (.ref f :: rest)) ∧
    PySem.W.keepIn K (.ref f) = true ∧ FnG P w K mg base (L2.CX P w) k f fd ps (spD K mg ps.length F) ∧ KwOk K fd ps 0 ks is
structure MetK (P : Program) (w : World) (K : PySem.W.Frag) (mg : Str → Option Value) (base : Heap) (k : Nat) (c m : Str) (ps ks : List Str) (is : List Nat) (F : Fn) : Prop where
  ex : ∃ (C f : Addr) (fd : FuncData), mg c = some (.ref C) ∧ Cls K C ∧ Meth K C m f ∧ FnG P w K mg base (L2.CX P w) k f fd ps (spD K mg ps.length F) ∧ KwOk K fd ps 1 ks is
structure CalK (P : Program) (w : World) (K : PySem.W.Frag) (mg : Str → Option Value) (base : Heap) (k : Nat) (x : Str) (ps ks : List Str) (is : List Nat) (F : Fn) : Prop where
  ex : ∃ (f : Addr) (fd : FuncData), FnG P w K mg base (L2.CX P w) k f fd ps (spD K mg ps.length F) ∧ mg x = some (.ref f) ∧ PySem.W.keepIn K (.ref f) = true ∧ KwOk K fd ps 0 ks is
end

section
variable {X : Cx} {b : Bx} {W : XK} {e a c : Expr} {Fa Fb F : SE} {L : SL} {pos : Pos} {k j : Nat}
theorem getmethsm_ok {pins : List (Addr × Obj)} {σ : L2.St} {H : Hp} {s : Shared} {C p f : Addr} {mc : Value} {m : Str} {A : Around} {E : Value → Shared → Prop} {pl : Sem Bool} {Q : Value × List Value → Shared → Prop} (I : Inv X pins σ H s) (r : ClX.CRead X.K C mc)
    (at_ : PySem.W.findCls X.K (.ref C) mc m = some (.get (.builtin "staticmethod.__get__") (.ref p) .none (.ref C))) (rc : ∃ rest, PySem.W.recIn X.K p "staticmethod" = some (.ref f :: rest)) (h : ∀ s', Inv X pins σ H s' → Q (.ref f, []) s') : wpAny (model X.prog X.w) A (getMethod (.ref C) m pl) Q E s := by
  obtain ⟨rest, hp⟩ := rc
  refine PySem.W.method_cls I.kIn r.ga (PySem.W.cls_bind I.kIn r.rd at_ ?_)
  refine wpAny_call (PySem.W.sm_get (s := { s with toks := s.toks + 1 }) I.kIn hp (PySem.W.handed_on rfl ?_))
  exact h _ (I.tok _)
/-- keywords: their values from the left -/
theorem dk_nil : PK X [] (tL b W nilL) := ⟨fun pos pins s σ H Q I ⟨G, env, n, g, q⟩ => pk_nil.run pos pins s σ H Q I (q [] G H (Step.refl g.le g.pen) .nil)⟩
theorem dk_cons {nm : Option Str} {kpos : Pos} {kws : List Keyword} (ha : PE X a (tD b W Fa)) (hr : PK X kws (tL b W L)) : PK X (⟨nm, a, kpos⟩ :: kws) (tL b W (consL Fa L)) := ⟨fun pos pins s σ H Q I ⟨G, env, n, g, q⟩ => (pk_cons ha hr).run pos pins s σ H Q I
  (td_bind (R := RaiseG b W) g q fun v d G1 H1 n1 s1 r1 q1 g1 => tl_bind (R := RaiseG b W) g1 q1 fun vs ds G2 H2 n2 s2 r2 q2 g2 => q2 _ G2 H2 (s1.tr s2) (.cons (r1.mono s2.gg) r2))⟩
/-- f(k = e, ..) -/
def callKE (ps m : Nat) (is : List Nat) (Fn : Fn) (L : SL) : SE := fun env => (L env).bind fun zs => lenL m zs (lenL ps (permL is zs) (Fn (permL is zs)))
theorem run_kw {m : Nat} {is : List Nat} {f : Addr} {fd : FuncData} {ps ks : List Str} {Fn : Fn} {first : List Value} {fv : List V} {fs : List D} {pins : List (Addr × Obj)} {s : Shared} {σ : L2.St} {G H : Hp} {env : PEnv} {n : Nat} {Q : VK} {ws : List Value} {zs : List V} {ds : List D}
    (F : FnG X.prog X.w X.K X.mg X.base (L2.CX X.prog X.w) k f fd ps (spD X.K X.mg ps.length Fn)) (hb : KwOk X.K fd ps m ks is) (hK : X.K = b.K) (hM : X.mg = b.mg) (hx : Passes (L2.CX X.prog X.w) X W) (hr : RoomG k X.A) (I : Inv X pins σ H s) (g : Good b G H σ env n) (rf : Vals fv first) (rd : b.RepL G fv fs) (hm : fv.length = m) (rz : Vals zs ws) (rD : b.RepL G zs ds) (hl : ds.length = ks.length)
    (hp : (permL is (fs ++ ds)).length = ps.length) (q : (Fn (permL is (fs ++ ds))).All (PostD b G H Q) (RaiseG b W) n) : wpAny (model X.prog X.w) X.A (call (.ref f) first (ks.zip ws)) (EP X pins σ Q) X.xe s := by
  refine run_fnN F hr hb.bn hx I rf rz hm (rD.length.trans hl) ?_
  show DL.rD X.K X.mg ps.length Fn (permL is (fv ++ zs)) H Q W
  rw [hK, hM]
  have r2 := permL_rep (is := is) (rd.append rD)
  exact use_rD g (r2.length.trans hp) r2 q
theorem de_cK {mm : Nat} {nn : Nat} {x : Str} {p : Pos} {kws : List Keyword} {ps ks : List Str} {is : List Nat} {Fn : Fn} (c : CalK X.prog X.w X.K X.mg X.base k x ps ks is Fn) (hK : X.K = b.K) (hM : X.mg = b.mg) (hx : Passes (L2.CX X.prog X.w) X W) (hr : RoomG j X.A) (hk : k ≤ j) (hg : Gl X x) (hkw : PK X kws (tL b W L))
    (hall : (backToKw pos (keywordEach kws X.env)).all (·.1.isSome) = true := by rfl) (hks : (backToKw pos (keywordEach kws X.env)).filterMap (·.1) = ks := by rfl) (hdb : (x == ("__debug__" : Str)) = false := by decide)
    (hpl : ((backTo pos (starEach [] X.env)).any (·.1) || (backToKw pos (keywordEach kws X.env)).any (·.1.isNone)) = false := by rfl) (hmm : ps.length = mm := by rfl) (hnn : ks.length = nn := by rfl) : PE X (.Call (.Name x p) [] kws pos) (tD b W (callKE mm nn is Fn L)) := by
  subst hmm
  subst hnn
  obtain ⟨f, fd, F, hm, kp, hb⟩ := c.ex
  refine ⟨fun pins s σ H Q I ⟨G, env, n, g, q⟩ => ?_⟩
  refine wpAny_Call_Name_kw (ld_glob I hg hm ?_ hdb)
  refine PySem.W.callWith_KW0 (h₀ := X.base) I.ok.mod.kin kp hall (thn (hkw.run pos pins s σ H _ I (tl_bind (R := RaiseG b W) (Q := fun zs H1 => ∃ G1 env1 n1 ds, Good b G1 H1 σ env1 n1 ∧ b.RepL G1 zs ds ∧ (lenL ks.length ds (lenL ps.length (permL is ds) (Fn (permL is ds)))).All (PostD b G1 H1 Q) (RaiseG b W) n1) g q fun vs ds G1 H1 n1 s1 r1 q1 g1 => ⟨G1, env, n1, ds, g1, r1, M.all_mono q1 (fun d k _ z => PostD.trans s1 z) fun _ _ _ _ z => z⟩)) fun ws s2 ⟨zs, H2, I2, rz, G1, env1, n1, ds, g1, r1, q1⟩ => ⟨I2.kIn, ?_⟩) hpl
  rw [hks]
  obtain ⟨hl, q2⟩ := lenL_all q1
  obtain ⟨hp, q3⟩ := lenL_all q2
  exact run_kw (first := []) (fv := []) (fs := []) F hb hK hM hx (hr.mono hk) I2 g1 .nil .nil rfl rz r1 hl hp q3
/-- o.m(k = e, ..) -/
def methKE (c m : Str) (ps kn : Nat) (is : List Nat) (Fn : Fn) (R : SE) (L : SL) : SE := fun env => (R env).bind fun r => match r with
  | .ins c' fs => if c' = c ∧ fs.lookup m = none then (L env).bind fun zs => lenL kn zs (lenL ps (permL is (r :: zs)) (Fn (permL is (r :: zs)))) else .fail
  | _ => .fail
theorem de_mtK {mm : Nat} {nn : Nat} {c m : Str} {o : Expr} {apos : Pos} {kws : List Keyword} {ps ks : List Str} {is : List Nat} {Fn : Fn} {R : SE} {pl : Sem Bool} (cm : MetK X.prog X.w X.K X.mg X.base k c m ps ks is Fn) (hK : X.K = b.K) (hM : X.mg = b.mg) (hx : Passes (L2.CX X.prog X.w) X W) (hr : RoomG j X.A) (hk : k ≤ j) (ho : PE X o (tD b W R)) (hkw : PK X kws (tL b W L))
    (hall : (backToKw pos (keywordEach kws X.env)).all (·.1.isSome) = true := by rfl) (hks : (backToKw pos (keywordEach kws X.env)).filterMap (·.1) = ks := by rfl)
    (hpl : ((backTo pos (starEach [] X.env)).any (·.1) || (backToKw pos (keywordEach kws X.env)).any (·.1.isNone)) = false := by rfl)
    (ht : eval (.Call (.Attribute o m apos) [] kws pos) X.env = (do
      let ov ← eval o X.env
      standAt apos.atName
      let (f, first) ← holding [ov] (getMethod ov m pl)
      callWith pos f first (backTo pos (starEach [] X.env)) (backToKw pos (keywordEach kws X.env))) := by rfl) (hmm : ps.length = mm := by rfl) (hnn : ks.length = nn := by rfl) : PE X (.Call (.Attribute o m apos) [] kws pos) (tD b W (methKE c m mm nn is Fn R L)) := by
  subst hmm
  subst hnn
  obtain ⟨C, f, fd, hC, hc, hm, F, hb⟩ := cm.ex
  refine ⟨fun pins s σ H Q I ⟨G, env, n, g, q⟩ => ?_⟩
  refine PySem.W.methodCall_KW (pl := pl) (thn (ho.run pins s σ H (fun x H1 => ∃ G1 env1 n1 a dx fs gs, x = .ref a ∧ Good b G1 H1 σ env1 n1 ∧ G1 a = some (.ins C dx fs) ∧ b.RepF G1 fs gs ∧ gs.lookup m = none ∧
      ((L env1).bind fun zs => lenL ks.length zs (lenL ps.length (permL is (.ins c gs :: zs)) (Fn (permL is (.ins c gs :: zs))))).All (PostD b G1 H1 Q) (RaiseG b W) n1) I (td_bind (R := RaiseG b W) g q fun v d G1 H1 n1 s1 r1 q1 g1 => ?_)) fun ov s1 ⟨x, H1, I1, rx, G1, env1, n1, a, dx, fs, gs, ex, g1, hg1, rf1, lk, q1⟩ => ?_) ht
  · cases r1 with
    | @ins a C' dx fs gs c' hm' hg' hr' =>
      replace q1 : (if c' = c ∧ gs.lookup m = none then (L env).bind fun zs => lenL ks.length zs (lenL ps.length (permL is (.ins c' gs :: zs)) (Fn (permL is (.ins c' gs :: zs)))) else .fail).All (PostD b G H Q) (RaiseG b W) n1 := q1
      by_cases hcc : c' = c ∧ gs.lookup m = none
      · rw [if_pos hcc] at q1
        obtain ⟨rfl, hlk⟩ := hcc
        have eC : C' = C := by
          rw [← hM, hC] at hm'
          cases hm'; rfl
        subst eC
        exact ⟨G1, env, n1, a, dx, fs, gs, rfl, g1, hg', hr', hlk, M.all_mono q1 (fun d k _ z => PostD.trans s1 z) fun _ _ _ _ z => z⟩
      · rw [if_neg hcc] at q1; exact q1.elim
    | _ => exact q1.elim
  · subst ex
    obtain rfl : ov = Value.ref a := rx
    refine getmeth_ok I1 (g1.le _ _ hg1) hc hm (rf1.lookupN lk) ?_
    refine PySem.W.callWith_KW0 (first := [.ref a]) (h₀ := X.base) I.ok.mod.kin hm.kp hall (thn (hkw.run pos pins s1 σ H1 (fun zs H2 => ∃ G2 n2 ds, Good b G2 H2 σ env1 n2 ∧ Same G1 G2 ∧ b.RepL G2 zs ds ∧ (lenL ks.length ds (lenL ps.length (permL is (.ins c gs :: ds)) (Fn (permL is (.ins c gs :: ds))))).All (PostD b G2 H2 Q) (RaiseG b W) n2) I1
      (tl_bind (R := RaiseG b W) g1 q1 fun vs ds G2 H2 n2 s2 r2 q2 g2 => ⟨G2, n2, ds, g2, s2.gg, r2, M.all_mono q2 (fun d k _ z => PostD.trans s2 z) fun _ _ _ _ z => z⟩)) fun ws s2 ⟨zs, H2, I2, rz, G2, n2, ds, g2, s12, r2, q2⟩ => ⟨I2.kIn, ?_⟩) hpl
    rw [hks]
    obtain ⟨hl, q3⟩ := lenL_all q2
    obtain ⟨hp, q4⟩ := lenL_all q3
    exact run_kw (first := [.ref a]) (fv := [.ref a]) (fs := [.ins c gs]) F hb hK hM hx (hr.mono hk) I2 g2 (.cons rfl .nil) (.cons (.ins (by rw [← hM]; exact hC) (s12 _ _ hg1) (rf1.mono s12)) .nil) rfl rz r2 hl hp q4
/-- C.m(e, ..), m a static method -/
theorem de_sm {mm : Nat} {c m : Str} {p : Pos} {apos : Pos} {es : List Expr} {ps : List Str} {Fn : Fn} {pl : Sem Bool} (cm : SMet X.prog X.w X.K X.mg X.base k c m ps Fn) (hK : X.K = b.K) (hM : X.mg = b.mg) (hx : Passes (L2.CX X.prog X.w) X W) (hr : RoomG j X.A) (hk : k ≤ j) (hg : Gl X c) (ha : PA X (e :: es) (tL b W L))
    (hdb : (c == ("__debug__" : Str)) = false := by decide) (hst : starEach (e :: es) X.env = (false, eval e X.env) :: starEach es X.env := by rfl) (hpl : (backTo pos (starEach es X.env)).any (·.1) = false := by rfl)
    (ht : eval (.Call (.Attribute (.Name c p) m apos) (e :: es) [] pos) X.env = (do
      let ov ← eval (.Name c p) X.env
      standAt apos.atName
      let (f, first) ← holding [ov] (getMethod ov m pl)
      callWith pos f first (backTo pos (starEach (e :: es) X.env)) (backToKw pos (keywordEach [] X.env))) := by rfl) (hmm : ps.length = mm := by rfl) : PE X (.Call (.Attribute (.Name c p) m apos) (e :: es) [] pos) (tD b W (callE mm Fn L)) := by
  subst hmm
  obtain ⟨C, pp, f, mc, fd, hC, cr, at_, rc, kp, F, hb⟩ := cm.ex
  refine ⟨fun pins s σ H Q I ⟨G, env, n, g, q⟩ => ?_⟩
  refine PySem.W.methodCall_KW (pl := pl) (ld_glob I hg hC ?_ hdb) ht
  refine getmethsm_ok I cr at_ rc fun s1 I1 => ?_
  refine PySem.W.callWith_K (first := []) (h₀ := X.base) I.ok.mod.kin kp (thn (ha.run pos pins s1 σ H (fun vs H2 => rD X.K X.mg ps.length Fn vs H2 Q W) I1 (tl_bind (R := RaiseG b W) g q fun vs ds G1 H1 n1 s1 r1 q1 g1 => ?_)) fun us s2 ⟨vs, H2, I2, r, q2⟩ => ⟨I2.kIn, ?_⟩) hst hpl
  · obtain ⟨hl, q2⟩ := lenL_all q1
    rw [hK, hM]
    exact use_rD g1 (r1.length.trans hl) r1 (M.all_mono q2 (fun d k _ z => PostD.trans s1 z) fun _ _ _ _ z => z)
  · exact run_fn (us := us) (vs := vs) F (hr.mono hk) hb .nil hx I2 r (by rw [List.append_nil]; exact q2)
theorem de_smK {mm : Nat} {nn : Nat} {c m : Str} {p : Pos} {apos : Pos} {kws : List Keyword} {ps ks : List Str} {is : List Nat} {Fn : Fn} {pl : Sem Bool} (cm : SMetK X.prog X.w X.K X.mg X.base k c m ps ks is Fn) (hK : X.K = b.K) (hM : X.mg = b.mg) (hx : Passes (L2.CX X.prog X.w) X W) (hr : RoomG j X.A) (hk : k ≤ j) (hg : Gl X c) (hkw : PK X kws (tL b W L))
    (hdb : (c == ("__debug__" : Str)) = false := by decide) (hall : (backToKw pos (keywordEach kws X.env)).all (·.1.isSome) = true := by rfl) (hks : (backToKw pos (keywordEach kws X.env)).filterMap (·.1) = ks := by rfl)
    (hpl : ((backTo pos (starEach [] X.env)).any (·.1) || (backToKw pos (keywordEach kws X.env)).any (·.1.isNone)) = false := by rfl)
    (ht : eval (.Call (.Attribute (.Name c p) m apos) [] kws pos) X.env = (do
      let ov ← eval (.Name c p) X.env
      standAt apos.atName
      let (f, first) ← holding [ov] (getMethod ov m pl)
      callWith pos f first (backTo pos (starEach [] X.env)) (backToKw pos (keywordEach kws X.env))) := by rfl) (hmm : ps.length = mm := by rfl) (hnn : ks.length = nn := by rfl) : PE X (.Call (.Attribute (.Name c p) m apos) [] kws pos) (tD b W (callKE mm nn is Fn L)) := by
  subst hmm
  subst hnn
  obtain ⟨C, pp, f, mc, fd, hC, cr, at_, rc, kp, F, hb⟩ := cm.ex
  refine ⟨fun pins s σ H Q I ⟨G, env, n, g, q⟩ => ?_⟩
  refine PySem.W.methodCall_KW (pl := pl) (ld_glob I hg hC ?_ hdb) ht
  refine getmethsm_ok I cr at_ rc fun s1 I1 => ?_
  refine PySem.W.callWith_KW0 (first := []) (h₀ := X.base) I.ok.mod.kin kp hall (thn (hkw.run pos pins s1 σ H (fun zs H1 => ∃ G1 env1 n1 ds, Good b G1 H1 σ env1 n1 ∧ b.RepL G1 zs ds ∧ (lenL ks.length ds (lenL ps.length (permL is ds) (Fn (permL is ds)))).All (PostD b G1 H1 Q) (RaiseG b W) n1) I1 (tl_bind (R := RaiseG b W) g q fun vs ds G1 H1 n1 s1 r1 q1 g1 => ⟨G1, env, n1, ds, g1, r1, M.all_mono q1 (fun d k _ z => PostD.trans s1 z) fun _ _ _ _ z => z⟩)) fun ws s2 ⟨zs, H2, I2, rz, G1, env1, n1, ds, g1, r1, q1⟩ => ⟨I2.kIn, ?_⟩) hpl
  rw [hks]
  obtain ⟨hl, q2⟩ := lenL_all q1
  obtain ⟨hp, q3⟩ := lenL_all q2
  exact run_kw (first := []) (fv := []) (fs := []) F hb hK hM hx (hr.mono hk) I2 g1 .nil .nil rfl rz r1 hl hp q3
end
end DL

set_option Elab.async false
set_option linter.all false
set_option maxRecDepth 100000
set_option maxHeartbeats 4000000
/-! The data layer: making instances; star parameters, star arguments. -/
namespace DL
open PySem PySem.Spec L2

/-- what an __init__ leaves at x -/
def PostN (b : Bx) (G H : Hp) (x : Addr) (Q : VK) : D → Nat → Prop := fun d n' => ∀ G' H', Step b.pn G H G' H' n' → G' x = none → (∃ c fs C dx vs, d = .ins c fs ∧ b.mg c = some (.ref C) ∧ H' x = some (.ins C dx vs) ∧ b.RepF G' vs fs) → Q .non H'
def rI (K : PySem.W.Frag) (mg : Str → Option Value) (c : Str) (m : Nat) (F : Fn) (vs : List V) (H : Hp) (Q : VK) (W : XK) : Prop :=
  ∃ (b : Bx) (G0 H0 G : Hp) (x C dx : Addr) (ws : List V) (ds : List D) (n : Nat), b.K = K ∧ b.mg = mg ∧ vs = .ref x :: ws ∧ ws.length = m ∧ mg c = some (.ref C) ∧ H x = some (.ins C dx []) ∧ H0 x = none ∧ G x = none ∧
    Step b.pn G0 H0 G H n ∧ PenOk b.pn G0 H0 n ∧ b.RepL G ws ds ∧ (F ds).All (PostN b G0 H0 x Q) (RaiseC b W G0 H0) n
def spI (K : PySem.W.Frag) (mg : Str → Option Value) (c : Str) (m : Nat) (F : Fn) : Sp := fun vs H Q W => rI K mg c m F vs H Q W
def endI (r : Fl × PEnv) : M D := match r with
  | (.nx, .own (.ins c fs) :: _) => .ret (.ins c fs)
  | _ => .fail
/-- the body of an __init__ as a function: m slots, slot 0 is self -/
def runI (c : Str) (m : Nat) (A : SS) : Fn := fun ds => (A (.own (.ins c []) :: envOf (m - 1) ds)).bind endI

theorem Good.stepX {b : Bx} {G0 H0 G' H' : Hp} {σ : L2.St} {env : PEnv} {n n' : Nat} {x : Addr} (st : Step b.pn G0 H0 b.G0 b.H0 n) (p0 : PenOk b.pn G0 H0 n) (hx : ∀ a, b.ex a → a = x) (h0 : H0 x = none) (g : Good b G' H' σ env n') : Step b.pn G0 H0 G' H' n' where
  gg := st.gg.trans g.base
  gh := g.le
  fr := fun a h1 h2 => g.fresh a (st.fr a h1 h2) (by
    by_cases hp : IsPen b.pn a
    · exact st.pen.there hp
    · intro z
      cases e : H0 a with
      | none => exact h2 e
      | some o => rw [st.hh a o e hp] at z; cases z)
  hh := fun a o e p => g.ext a o (st.hh a o e p) p fun z => by rw [hx a z, h0] at e; cases e
  pen := g.pen

theorem good_startI {b : Bx} {N : List Str} {G H : Hp} {x C dx : Addr} {c : Str} {vs : List V} {ds : List D} {n : Nat} (hG : b.G0 = G) (hH : b.H0 = H) (hx : ∀ a, b.ex a ↔ a = x) (s : Same G H) (p : PenOk b.pn G H n) (gx : G x = none) (hm : b.mg c = some (.ref C)) (ox : H x = some (.ins C dx [])) (r : b.RepL G vs ds) :
    Good b G H (L2.start N (.ref x :: vs)) (.own (.ins c []) :: envOf (N.length - 1) ds) n := by
  have npx : ¬ IsPen b.pn x := fun ⟨l, e⟩ => by
    obtain ⟨_, _, _, _, z, _⟩ := p x l e
    rw [ox] at z
    cases z
  have hl := r.length
  have key : ∀ (j : Nat) (sl : Slot), (envOf (N.length - 1) ds)[j]? = some sl → (∃ d, sl = .val d ∧ ∃ v, (L2.start N (.ref x :: vs))[j + 1]? = some (some v) ∧ b.Rep G v d) ∨ sl = .no := fun j sl e => by
    unfold envOf at e
    unfold L2.start
    by_cases hi : j < ds.length
    · rw [List.getElem?_append_left (by simpa using hi), List.getElem?_map] at e
      rw [List.getElem?_append_left (by simp; omega), List.getElem?_map, List.getElem?_cons_succ]
      cases ed : ds[j]? with
      | none => rw [ed] at e; cases e
      | some d =>
        rw [ed] at e
        cases e
        obtain ⟨v, ev, rv⟩ := r.getD ed
        exact .inl ⟨d, rfl, v, by rw [ev]; rfl, rv⟩
    · rw [List.getElem?_append_right (by simp; omega), List.getElem?_replicate] at e
      split at e
      · cases e; exact .inr rfl
      · cases e
  refine ⟨s, by rw [hG]; exact Same.refl G, fun a h _ => by rw [← hG]; exact h, fun a o h _ _ => by rw [← hH]; exact h, p, ?_, fun i sl e => ?_, fun a h => ?_, fun i j d e a h1 h2 _ _ => ?_⟩
  · unfold envOf L2.start
    rw [List.length_cons, List.length_append, List.length_append, List.length_map, List.length_map, List.length_replicate, List.length_replicate, List.length_cons, r.length]
    omega
  · cases i with
    | zero =>
      simp at e
      subst e
      exact ⟨x, rfl, gx, npx, .inr ((hx x).mpr rfl), (hx x).mpr rfl, C, dx, [], hm, ox, .nil⟩
    | succ j =>
      rw [List.getElem?_cons_succ] at e
      rcases key j sl e with ⟨d, rfl, v, h1, h2⟩ | rfl
      · exact ⟨v, h1, h2⟩
      · trivial
  · obtain rfl := (hx a).mp h
    exact ⟨gx, ⟨C, dx, [], ox⟩, npx⟩
  · have no : ∀ (i : Nat) (d : D), (Slot.own (.ins c []) :: envOf (N.length - 1) ds)[i]? = some (Slot.own d) → i = 0 := fun i d h => by
      cases i with
      | zero => rfl
      | succ j =>
        rw [List.getElem?_cons_succ] at h
        rcases key j _ h with ⟨d, z, _⟩ | z <;> cases z
    rw [no i d h1, no j e h2]

section
variable {P : Program} {w : World} {K : PySem.W.Frag} {mg : Str → Option Value} {base : Heap}
theorem use_rI {N : List Str} {c : Str} {m : Nat} {B : SS} {vs : List V} {H : Hp} {Q : VK} {E : XK} (h : rI K mg c m (runI c N.length B) vs H Q E) : ∃ b : Bx, b.K = K ∧ b.mg = mg ∧ tS b E B { nx := fun _ H' => Q .non H', rt := Q } (L2.start N vs) H := by
  obtain ⟨b0, G0, H0, G, x, C, dx, ws, ds, n, rfl, rfl, rfl, hl, hc, ox, h0, gx, st, p0, r, q⟩ := h
  refine ⟨⟨b0.K, b0.mg, b0.pn, G, H, fun a => a = x⟩, rfl, rfl, G, _, n, good_startI rfl rfl (fun _ => Iff.rfl) st.gh st.pen gx hc ox r, ?_⟩
  refine M.all_mono (M.all_bind q) (fun r n' _ z G' H' σ' s' g' => ?_) fun c fs n' _ z C dx vs G' H' σ' env' g' h1 h2 h3 => ?_
  · obtain ⟨fl, env'⟩ := r
    cases fl with
    | bk => exact z.elim
    | ct => exact z.elim
    | rt d => exact z.elim
    | nx =>
      show Q .non H'
      cases env' with
      | nil => exact z.elim
      | cons sl env' =>
        cases sl with
        | no => exact z.elim
        | val d => exact z.elim
        | own d =>
          cases d with
          | ins c' fs =>
            obtain ⟨a, ea, ga, pa, _, xa, C', dx', vs', hm', hv', rv'⟩ := g'.slots 0 (.own (.ins c' fs)) rfl
            have xa : a = x := xa
            subst xa
            exact z G' H' (Good.stepX (b := ⟨b0.K, b0.mg, b0.pn, G, H, fun a' => a' = a⟩) st p0 (fun _ z => z) h0 g') ga ⟨c', fs, C', dx', vs', rfl, hm', hv', rv'⟩
          | _ => exact z.elim
  · exact z C dx vs G' H' (Good.stepX (b := ⟨b0.K, b0.mg, b0.pn, G, H, fun a' => a' = x⟩) st p0 (fun _ z => z) h0 g') h1 h2 h3
theorem fnI {x qual c p0 : Str} {st : Stmt} {f : Addr} {fd : FuncData} {N ps : List Str} {k : Nat} {B : SS} (F : L2.Fun K x qual st f fd) (S : FnScope N (p0 :: ps) (defScope st))
    (body : ∀ (cdv : Value) (A : Around) (outer : List PySem.Env) (s : Shared) (H : Hp) (E : XK) (b : Bx), RoomG k (A.deeper (PyProof.Rows.envOfC qual (defScope st) s.heap.objs.size f cdv)) → b.K = K → b.mg = mg →
      PSs (cxOf (L2.CX P w) P w K mg base N qual (defScope st) f cdv A outer s H E) (defBody st) (tS b E B)) : FnG P w K mg base (L2.CX P w) (k + 1) f fd (p0 :: ps) (spI K mg c ps.length (runI c N.length B)) := by
  refine okG F S (fun vs H Q E h => ?_) (fun cdv A outer s H vs Q E hr h => ?_)
  · obtain ⟨_, _, _, _, _, _, _, _, _, _, _, _, rfl, hl, _⟩ := h
    rw [List.length_cons, List.length_cons, hl]
  · obtain ⟨b, hK, hM, t⟩ := use_rI h
    exact ⟨_, body cdv A outer s H E b hr hK hM, t⟩
/-- the promise of an __init__ with a star parameter behind m others -/
def spIS (K : PySem.W.Frag) (mg : Str → Option Value) (c : Str) (m : Nat) (F : Fn) : Sp := fun vs H Q E => ∃ ws rest, vs = ws ++ rest ∧ ws.length = m + 1 ∧ rest.length ≤ sizeLine ∧ ∀ p, H p = none → rI K mg c (m + 1) F (ws ++ [V.ref p]) (upd H p (.tup rest)) Q E
theorem fnIS {x qual c p0 pv : Str} {st : Stmt} {f : Addr} {fd : FuncData} {N ps : List Str} {k : Nat} {B : SS} (F : L2.Fun K x qual st f fd) (S : FnScope N ((p0 :: ps) ++ [pv]) (defScope st))
    (hb : ∀ (kV doc pm : Value) (an : Option Addr) (cdv ct : Value) (us rest : List Value), us.length = (p0 :: ps).length → bindArgs (PySem.W.fnOf x qual (defArgs st) (defBody st) (defScope st) .none kV doc pm an cdv ct) ⟨us ++ rest, []⟩ = (newTuple rest >>= fun t => pure ((p0 :: ps).zip us ++ [(pv, t)])))
    (body : ∀ (cdv : Value) (A : Around) (outer : List PySem.Env) (s : Shared) (H : Hp) (E : XK) (b : Bx), RoomG k (A.deeper (PyProof.Rows.envOfC qual (defScope st) s.heap.objs.size f cdv)) → b.K = K → b.mg = mg →
      PSs (cxOf (L2.CX P w) P w K mg base N qual (defScope st) f cdv A outer s H E) (defBody st) (tS b E B)) : FnRG P w K mg base (L2.CX P w) (k + 1) f (spIS K mg c ps.length (runI c N.length B)) := by
  exact fn_starG (sp := fun vs H Q E => rI K mg c (ps.length + 1) (runI c N.length B) vs H Q E) F S hb (fun cdv A outer s H vs Q E hr h => by
    obtain ⟨b, hK, hM, t⟩ := use_rI h
    exact ⟨_, body cdv A outer s H E b hr hK hM, t⟩)

/-- a class under its name, by the pure function of its __init__ -/
structure Mak (P : Program) (w : World) (K : PySem.W.Frag) (mg : Str → Option Value) (base : Heap) (k : Nat) (c p0 : Str) (ps : List Str) (F : Fn) : Prop where
  ex : ∃ (C f : Addr) (fd : FuncData), mg c = some (.ref C) ∧ Mk K C f ∧ FnG P w K mg base (L2.CX P w) k f fd (p0 :: ps) (spI K mg c ps.length F) ∧ Binds K fd (p0 :: ps) []
structure MakS (P : Program) (w : World) (K : PySem.W.Frag) (mg : Str → Option Value) (base : Heap) (k : Nat) (c : Str) (m : Nat) (F : Fn) : Prop where
  ex : ∃ (C f : Addr), mg c = some (.ref C) ∧ Mk K C f ∧ FnRG P w K mg base (L2.CX P w) k f (spIS K mg c m F)
end

section
variable {X : Cx} {b : Bx} {W : XK} {e a c : Expr} {Fa Fb F : SE} {L : SL} {pos : Pos} {k j : Nat}
/-- an instance that was made is shared -/
theorem use_mk {m : Nat} {c : Str} {C : Addr} {G H : Hp} {σ : L2.St} {env : PEnv} {n : Nat} {Q : VK} {Fn : Fn} {ws : List V} {ds : List D} (hm : b.mg c = some (.ref C)) (g : Good b G H σ env n) (hl : ws.length = m) (r : b.RepL G ws ds) (q : (Fn ds).All (PostD b G H Q) (RaiseG b W) n) {x dx : Addr} (hx : H x = none) (hd : H dx = none) (ne : dx ≠ x) :
    rI b.K b.mg c m Fn (.ref x :: ws) (upd (upd H dx (.own x)) x (.ins C dx [])) (fun v H2 => v = .non ∧ Q (.ref x) H2) W := by
  have hx1 : (upd H dx (.own x)) x = none := by rw [upd_ne ne.symm]; exact hx
  have s1 := Step.newU (o := .own x) g.le g.pen hd
  have s2 := Step.newU (o := .ins C dx []) s1.gh s1.pen hx1
  refine ⟨b, G, H, G, x, C, dx, ws, ds, n, rfl, rfl, rfl, hl, hm, upd_same, hx, g.le.free hx, s1.tr s2, g.pen, r, M.all_mono q (fun d k _ z => ?_) fun c fs n' _ z C dx us G' H' st h1 h2 h3 => z C dx us G' H' σ env (g.step st) h1 h2 h3⟩
  intro G' H' st gx ⟨c', fs, C', dx', vs, ed, hm', hv, rf⟩
  subst ed
  have np : ¬ IsPen b.pn x := g.pen.ne hx
  obtain ⟨t1, t2, t3⟩ := Step.freeze (o := .ins C' dx' vs) st.gh st.pen gx hv np
  refine ⟨rfl, z (.ref x) (upd G' x (.ins C' dx' vs)) H' ⟨st.gg.trans t1, t2, fun a h1 h2 => ?_, st.hh, t3⟩ (.ins hm' upd_same (rf.mono t1))⟩
  rw [upd_ne (show a ≠ x from fun w => by rw [w] at h2; exact h2 hx)]
  exact st.fr a h1 h2
/-- C(e, ..) -/
theorem de_make {mm : Nat} {c p0 : Str} {p : Pos} {es : List Expr} {ps : List Str} {Fn : Fn} (cm : Mak X.prog X.w X.K X.mg X.base k c p0 ps Fn) (hK : X.K = b.K) (hM : X.mg = b.mg) (hx : Passes (L2.CX X.prog X.w) X W) (hr : RoomG j X.A) (hk : k + 1 ≤ j) (hg : Gl X c) (ha : PA X (e :: es) (tL b W L))
    (hdb : (c == ("__debug__" : Str)) = false := by decide) (he : starEach (e :: es) X.env = (false, eval e X.env) :: starEach es X.env := by rfl) (hpl : (backTo pos (starEach es X.env)).any (·.1) = false := by rfl) (hmm : ps.length = mm := by rfl) : PE X (.Call (.Name c p) (e :: es) [] pos) (tD b W (callE mm Fn L)) := by
  subst hmm
  obtain ⟨C, f, fd, hC, Mm, F, hb⟩ := cm.ex
  refine (pe_makeR Mm (F.toRG hb) (hr.mono hk) hg hC hx ha hdb he hpl).imp fun σ H Q ⟨G, env, n, g, q⟩ => ?_
  refine tl_bind (R := RaiseG b W) g q fun vs ds G1 H1 n1 s1 r1 q1 g1 x dx h1 h2 h3 => ?_
  obtain ⟨hl, q2⟩ := lenL_all q1
  show rI X.K X.mg c ps.length Fn _ _ _ W
  rw [hK, hM]
  exact use_mk (by rw [← hM]; exact hC) g1 (r1.length.trans hl) r1 (M.all_mono q2 (fun d k _ z => PostD.trans s1 z) fun _ _ _ _ z => z) h1 h2 h3
theorem de_make0 {c p0 : Str} {p : Pos} {Fn : Fn} (cm : Mak X.prog X.w X.K X.mg X.base k c p0 [] Fn) (hK : X.K = b.K) (hM : X.mg = b.mg) (hx : Passes (L2.CX X.prog X.w) X W) (hr : RoomG j X.A) (hk : k + 1 ≤ j) (hg : Gl X c)
    (hdb : (c == ("__debug__" : Str)) = false := by decide) :
    PE X (.Call (.Name c p) [] [] pos) (tD b W fun _ => Fn []) := by
  obtain ⟨C, f, fd, hC, Mm, F, hb⟩ := cm.ex
  refine (pe_makeR0 Mm (F.toRG hb) (hr.mono hk) hg hC hx hdb).imp fun σ H Q ⟨G, env, n, g, q⟩ x dx h1 h2 h3 => ?_
  show rI X.K X.mg c 0 Fn _ _ _ W
  rw [hK, hM]
  exact use_mk (by rw [← hM]; exact hC) g rfl .nil q h1 h2 h3
/-- *e, .. -/
def starL (Fe : SE) (L : SL) : SL := fun env => (Fe env).bind fun d => match d with
  | .lst xs => (L env).bind fun ys => .ret (xs ++ ys)
  | .tup xs => (L env).bind fun ys => .ret (xs ++ ys)
  | _ => .fail
theorem da_star {es : List Expr} {p : Pos} (hK : X.K = b.K) (he : PE X e (tD b W F)) (hr : PA X es (tL b W L)) (hs : starEach (.Starred e p :: es) X.env = (true, eval e X.env) :: starEach es X.env := by rfl) : PA X (.Starred e p :: es) (tL b W (starL F L)) := by
  refine ⟨fun pos pins s σ H Q I ⟨G, env, n, g, q⟩ => (StX.pa_star he hr hs).run pos pins s σ H Q I ?_⟩
  refine td_bind (R := RaiseG b W) g q fun v d G1 H1 n1 s1 r1 q1 g1 => ?_
  have fin : ∀ (xs : List V) (ds : List D), b.RepL G1 xs ds → ((L env).bind fun ys => M.ret (ds ++ ys)).All (PostL b G H Q) (RaiseG b W) n1 → tL b W L σ H1 fun ys H2 => Q (xs ++ ys) H2 := fun xs ds rx qx =>
    tl_bind (R := RaiseG b W) g1 qx fun vs es G2 H2 n2 s2 r2 q2 g2 => q2 _ G2 H2 (s1.tr s2) ((rx.mono s2.gg).append r2)
  cases r1 with
  | @lst l vs ds hl hv => exact ⟨l, vs, rfl, .inr (SqL.of (g1.le _ _ hl)), fin vs ds hv q1⟩
  | @tup l vs ds hl hv => exact ⟨l, vs, rfl, .inl (hK ▸ sqT_mono g1.le hl), fin vs ds hv q1⟩
  | _ => exact q1.elim
/-- C(e, ..), C's __init__ with a star parameter behind m others -/
def callSE (m : Nat) (Fn : Fn) (L : SL) : SE := fun env => (L env).bind fun ds => if (decide (m ≤ ds.length) && sizeOk ds) = true then Fn (ds.take m ++ [.tup (ds.drop m)]) else .fail
theorem RepL.splitAt {G : Hp} {vs : List V} {ds : List D} (r : b.RepL G vs ds) (m : Nat) : b.RepL G (vs.take m) (ds.take m) ∧ b.RepL G (vs.drop m) (ds.drop m) := ⟨r.take m, r.drop m⟩
theorem use_mkS {m : Nat} {c : Str} {C : Addr} {G H : Hp} {σ : L2.St} {env : PEnv} {n : Nat} {Q : VK} {Fn : Fn} {vs : List V} {ds : List D} (hm : b.mg c = some (.ref C)) (g : Good b G H σ env n) (r : b.RepL G vs ds) (q : (if (decide (m ≤ ds.length) && sizeOk ds) = true then Fn (ds.take m ++ [.tup (ds.drop m)]) else .fail).All (PostD b G H Q) (RaiseG b W) n) {x dx : Addr} (hx : H x = none) (hd : H dx = none) (ne : dx ≠ x) :
    spIS b.K b.mg c m Fn (.ref x :: vs) (upd (upd H dx (.own x)) x (.ins C dx [])) (fun v H2 => v = .non ∧ Q (.ref x) H2) W := by
  obtain ⟨h12, q⟩ := if_all q
  rw [Bool.and_eq_true, decide_eq_true_iff] at h12
  obtain ⟨h1, h2⟩ := h12
  have hz := sizeOk_le h2
  have hlen := r.length
  have r0 := r
  obtain ⟨r1, r2⟩ := RepL.splitAt r m
  refine ⟨.ref x :: vs.take m, vs.drop m, by rw [List.cons_append, List.take_append_drop], by rw [List.length_cons, List.length_take, hlen]; omega, by rw [List.length_drop]; omega, fun p hp => ?_⟩
  have hx1 : (upd H dx (.own x)) x = none := by rw [upd_ne ne.symm]; exact hx
  have s1 := Step.newU (o := .own x) g.le g.pen hd
  have s2 := Step.newU (o := .ins C dx []) s1.gh s1.pen hx1
  have s3 := Step.new (o := .tup (vs.drop m)) s2.gh s2.pen hp
  have npx : x ≠ p := ne_of_none upd_same hp
  have s4 := (s1.tr s2).tr s3
  refine ⟨b, G, H, upd G p (.tup (vs.drop m)), x, C, dx, vs.take m ++ [.ref p], ds.take m ++ [.tup (ds.drop m)], n, rfl, rfl, rfl, by rw [List.length_append, List.length_take, hlen]; simp; omega, hm, by rw [upd_ne npx]; exact upd_same, hx, by rw [upd_ne npx]; exact g.le.free hx, s4, g.pen, (r1.mono s3.gg).append (.cons (.tup (SqT.of upd_same) (r2.mono s3.gg)) .nil), M.all_mono q (fun d k _ z => ?_) fun c fs n' _ z C dx us G' H' st h1 h2 h3 => z C dx us G' H' σ env (g.step st) h1 h2 h3⟩
  intro G' H' st gx ⟨c', fs, C', dx', ws, ed, hm', hv, rf⟩
  subst ed
  have np : ¬ IsPen b.pn x := g.pen.ne hx
  obtain ⟨t1, t2, t3⟩ := Step.freeze (o := .ins C' dx' ws) st.gh st.pen gx hv np
  refine ⟨rfl, z (.ref x) (upd G' x (.ins C' dx' ws)) H' ⟨st.gg.trans t1, t2, fun a h1 h2 => ?_, st.hh, t3⟩ (.ins hm' upd_same (rf.mono t1))⟩
  rw [upd_ne (show a ≠ x from fun w => by rw [w] at h2; exact h2 hx)]
  exact st.fr a h1 h2
theorem de_makeS {c : Str} {p : Pos} {es : List Expr} {m : Nat} {Fn : Fn} (cm : MakS X.prog X.w X.K X.mg X.base k c m Fn) (hK : X.K = b.K) (hM : X.mg = b.mg) (hx : Passes (L2.CX X.prog X.w) X W) (hr : RoomG j X.A) (hk : k + 1 ≤ j) (hg : Gl X c) (ha : PA X (e :: es) (tL b W L))
    (hdb : (c == ("__debug__" : Str)) = false := by decide) (he : starEach (e :: es) X.env = (false, eval e X.env) :: starEach es X.env := by rfl) (hpl : (backTo pos (starEach es X.env)).any (·.1) = false := by rfl) :
    PE X (.Call (.Name c p) (e :: es) [] pos) (tD b W (callSE m Fn L)) := by
  obtain ⟨C, f, hC, Mm, F⟩ := cm.ex
  refine (pe_makeR Mm F (hr.mono hk) hg hC hx ha hdb he hpl).imp fun σ H Q ⟨G, env, n, g, q⟩ => ?_
  refine tl_bind (R := RaiseG b W) g q fun vs ds G1 H1 n1 s1 r1 q1 g1 x dx h1 h2 h3 => ?_
  rw [hK, hM]
  exact use_mkS (by rw [← hM]; exact hC) g1 r1 (M.all_mono q1 (fun d k _ z => PostD.trans s1 z) fun _ _ _ _ z => z) h1 h2 h3
/-- C(e, *y) -/
theorem de_makeS2 {c : Str} {p : Pos} {es : List Expr} {m : Nat} {Fn : Fn} (cm : MakS X.prog X.w X.K X.mg X.base k c m Fn) (hK : X.K = b.K) (hM : X.mg = b.mg) (hx : Passes (L2.CX X.prog X.w) X W) (hr : RoomG j X.A) (hk : k + 1 ≤ j) (hg : Gl X c) (ha : PA X (e :: es) (tL b W L))
    (hdb : (c == ("__debug__" : Str)) = false := by decide) (he : starEach (e :: es) X.env = (false, eval e X.env) :: starEach es X.env := by rfl) (hst : (backTo pos (starEach es X.env)).any (·.1) = true := by rfl) :
    PE X (.Call (.Name c p) (e :: es) [] pos) (tD b W (callSE m Fn L)) := by
  obtain ⟨C, f, hC, Mm, F⟩ := cm.ex
  refine ⟨fun pins s σ H Q I ⟨G, env, n, g, q⟩ => ?_⟩
  refine wpAny_Call_Name_kw (ld_glob I hg hC ?_ hdb)
  refine PySem.W.callWith_S2 (h₀ := X.base) I.ok.mod.kin Mm.kp (thn (ha.run pos pins s σ H (fun vs H1 => ∀ x dx, H1 x = none → H1 dx = none → dx ≠ x → spIS X.K X.mg c m Fn (.ref x :: vs) (upd (upd H1 dx (.own x)) x (.ins C dx [])) (fun v H2 => v = .non ∧ Q (.ref x) H2) W) I (tl_bind (R := RaiseG b W) g q fun vs ds G1 H1 n1 s1 r1 q1 g1 x dx h1 h2 h3 => ?_)) fun us s1 ⟨vs, H1, I1, r, q⟩ => ⟨I1.kIn, ?_⟩) he hst
  · rw [hK, hM]
    exact use_mkS (by rw [← hM]; exact hC) g1 r1 (M.all_mono q1 (fun d k _ z => PostD.trans s1 z) fun _ _ _ _ z => z) h1 h2 h3
  · exact run_makeR Mm F (hr.mono hk) hx I1 r q
/-- a statement that no way reaches -/
theorem ds_never {st : Stmt} : PS X st (tS b W fun _ => .fail) := ⟨fun pins s σ H D I ⟨G, env, n, g, q⟩ => q.elim⟩
end
end DL

set_option Elab.async false
set_option linter.all false
set_option maxRecDepth 100000
set_option maxHeartbeats 4000000
/-! The data layer: own __contains__, __len__, __eq__. -/
namespace DL
open PySem PySem.Spec L2

theorem slot_ne : ∃ T, PySem.Slot T "__ne__" "object.__ne__" := ⟨"object", PySem.F.cmp_object.ne⟩
section
variable {X : Cx} {CX : CXT} {b : Bx} {W : XK} {C f : Addr} {fd : FuncData} {ps : List Str} {sp : Sp} {k : Nat} {pins : List (Addr × Obj)} {σ : L2.St} {H : Hp} {s : Shared} {Q : VK}
theorem inst_at {a dx : Addr} {fs : List (Str × V)} (I : Inv X pins σ H s) (h : H a = some (.ins C dx fs)) : ∃ ox od, PySem.W.InstAt s.heap a ox C od := by
  obtain ⟨mA, J, _⟩ := ins_get I.hok h
  obtain ⟨od, J, _⟩ := J.look
  exact ⟨_, _, J⟩
/-- x in o, o an instance of C -/
def rOin (C : Addr) (sp : Sp) (W : XK) (neg : Bool) : R2 := fun x y H Q => ∃ a dx fs, y = .ref a ∧ H a = some (.ins C dx fs) ∧ sp [.ref a, x] H (fun z H3 => ∃ k, z = .bl k ∧ Q (.bl (if neg then !k else k)) H3) W
theorem op_oin (hs : PySem.W.findIn X.K (.ref C) "__contains__" = some (some (.ref f))) (hf : PySem.W.isFn X.K (.ref f) = true) (F : FnG X.prog X.w X.K X.mg X.base CX k f fd ps sp) (hr : RoomG k X.A) (hb : Binds X.K fd ps []) (hx : Passes CX X W) : OpR X (compareOp .In) (rOin C sp W false) := by
  intro pins s σ H x y v u Q I rx ry ⟨a, dx, fs, ey, ha, h⟩
  subst ey
  obtain rfl : u = Value.ref a := ry
  obtain ⟨ox, od, J⟩ := inst_at I ha
  obtain ⟨m, hF⟩ := I.fr
  refine PySem.W.in_K hF I.ok.mod.kin J hs hf (wpAny_mono (run_fnA (vs := [.ref a, x]) F hr rfl hb hx I (.cons rfl (.cons rx .nil)) h) (fun r s' ⟨z, H3, I3, rz, kb, ez, q⟩ => ?_) fun _ _ z => z)
  subst ez
  obtain rfl : r = Value.bool kb := rz
  exact wpAny_truthy_bool ⟨.bl kb, H3, I3, rfl, q⟩
theorem op_onin (hs : PySem.W.findIn X.K (.ref C) "__contains__" = some (some (.ref f))) (hf : PySem.W.isFn X.K (.ref f) = true) (F : FnG X.prog X.w X.K X.mg X.base CX k f fd ps sp) (hr : RoomG k X.A) (hb : Binds X.K fd ps []) (hx : Passes CX X W) : OpR X (compareOp .NotIn) (rOin C sp W true) := by
  intro pins s σ H x y v u Q I rx ry ⟨a, dx, fs, ey, ha, h⟩
  subst ey
  obtain rfl : u = Value.ref a := ry
  obtain ⟨ox, od, J⟩ := inst_at I ha
  obtain ⟨m, hF⟩ := I.fr
  refine PySem.W.notIn_K hF I.ok.mod.kin J hs hf (wpAny_mono (run_fnA (vs := [.ref a, x]) F hr rfl hb hx I (.cons rfl (.cons rx .nil)) h) (fun r s' ⟨z, H3, I3, rz, kb, ez, q⟩ => ?_) fun _ _ z => z)
  subst ez
  obtain rfl : r = Value.bool kb := rz
  exact wpAny_truthy_bool ⟨.bl (!kb), H3, I3, rfl, q⟩
/-- o == y, o != y, o an instance of C -/
def rOeq (K : PySem.W.Frag) (C : Addr) (sp : Sp) (W : XK) (neg : Bool) : R2 := fun x y H Q => ∃ a dx fs t, x = .ref a ∧ H a = some (.ins C dx fs) ∧ TyX K H y t ∧ PySem.W.notFirst K C t = true ∧ sp [.ref a, y] H (fun z H3 => ∃ k, z = .bl k ∧ Q (.bl (if neg then !k else k)) H3) W
theorem op_oeq (hs : PySem.W.findIn X.K (.ref C) "__eq__" = some (some (.ref f))) (hf : PySem.W.isFn X.K (.ref f) = true) (F : FnG X.prog X.w X.K X.mg X.base CX k f fd ps sp) (hr : RoomG k X.A) (hb : Binds X.K fd ps []) (hx : Passes CX X W) : OpR X (compareOp .Eq) (rOeq X.K C sp W false) := by
  intro pins s σ H x y v u Q I rx ry ⟨a, dx, fs, t, ex, ha, ty, nf, h⟩
  subst ex
  obtain rfl : v = Value.ref a := rx
  obtain ⟨ox, od, J⟩ := inst_at I ha
  obtain ⟨m, hF⟩ := I.fr
  obtain ⟨P, Z, pz, _⟩ := kit_of I ry ty
  refine PySem.W.cmp_ofEq (PySem.W.cmp_K (op := .Eq) hr.units0 hF I.ok.mod.kin J (Z.ty _ _ I.kIn pz) nf hs hf (wpAny_mono (run_fnA (vs := [.ref a, y]) F hr rfl hb hx I (.cons rfl (.cons ry .nil)) h) (fun r s' ⟨z, H3, I3, rz, kb, ez, q⟩ => ?_) fun _ _ z => z))
  subst ez
  obtain rfl : r = Value.bool kb := rz
  exact ⟨.bl kb, H3, I3, rfl, q⟩
theorem ne_own {prog : Program} {w : World} {A : Around} {E : Value → Shared → Prop} {s : Shared} {K : PySem.W.Frag} {x C L f : Addr} {h₀ : Heap} {m : Str → Option Value} {ox : Obj} {od : Option Obj} {bv tb : Value} {Q : Value → Shared → Prop}
    (hu : A.units + 1 < cLine) (F : PyProof.Rows.Fr h₀ L s.heap m) (X₀ : K.In h₀) (I : PySem.W.InstAt s.heap x ox C od) (hb : PySem.W.Looks (model prog w) s.heap (typeOf bv) tb) (hn : PySem.W.notFirst K C tb = true)
    (hne : PySem.W.findIn K (.ref C) "__ne__" = some (some (.builtin "object.__ne__"))) (hsub : PySem.W.subIn K (.ref C) (.type "object") = some true)
    (hs : PySem.W.findIn K (.ref C) "__eq__" = some (some (.ref f))) (hf : PySem.W.isFn K (.ref f) = true)
    (h : wpAny (model prog w) A.in1 (call (.ref f) [.ref x, bv]) (fun v s' => ∃ k, v = .bool k ∧ Q (.bool (!k)) s') E s) : wpAny (model prog w) A (richCompare .NotEq (.ref x) bv) Q E s := by
  have X := X₀.keeps F.keep
  obtain ⟨T, S⟩ := slot_ne
  have hcall : wpAny (model prog w) A (call (.builtin "object.__ne__") [.ref x, bv]) (fun v s' => ∃ k, v = .bool k ∧ Q (.bool k) s') E s := by
    refine wpAny_call (codeAny_call_builtin S.plain PySem.F.cmpEntry_ne (PySem.W.check_slot PySem.F.cmpKind_ne PySem.F.cmpSplit_ne (I.type.andThen (PySem.W.looks_subIn X hsub)) (PySem.F.cmpArgs_ne _ _) ?_))
    have key : wpAny (model prog w) A.in1 (callSpecialIfBound? (.ref x) (Str.ofString "__eq__") [bv]) (fun r s' => ∃ k, r = some (.bool k) ∧ Q (.bool (!k)) s') E s :=
      PySem.W.ifBound_K X I hs hf (wpAny_mono h (fun v s' ⟨k, e, q⟩ => ⟨k, by rw [e], q⟩) fun _ _ e => e)
    obtain ⟨hh, g, d, t, os⟩ := s
    unfold Builtin.«object.__ne__»
    repeat (first
      | with_reducible refine wpAny_cRoomFor (by assumption) ?_
      | (refine wpAny_bind (m := callSpecialIfBound? (.ref x) (Str.ofString "__eq__") [bv]) (wpAny_mono key (fun r s' hr => by
          obtain ⟨k, rfl, hq⟩ := hr
          repeat (first | exact ⟨_, rfl, hq⟩ | exact wpAny_pure ⟨_, rfl, hq⟩ | exact wpAny_truthy_bool ⟨_, rfl, hq⟩ | (refine wpAny_bind (m := truthy (.bool _)) (wpAny_truthy_bool ?_)) | wp_step)) fun _ _ e => e))
      | wp_step)
  have one : wpAny (model prog w) A (tryCompare (.ref x) "__ne__" bv) (fun r s' => ∃ v, r = some v ∧ Q v s') E s := by
    unfold tryCompare
    have bnd : wpAny (model prog w) A (callSpecialIfBound? (.ref x) "__ne__" [bv]) (fun r s' => ∃ k, r = some (.bool k) ∧ Q (.bool k) s') E s := by
      simp only [callSpecialIfBound?, bindSpecialIfBound?]
      refine wpAny_holding (wpAny_bind (wpAny_bind (wpAny_bind (I.type.here ((PySem.W.looks_findIn X hne).here ?_)))))
      simp only [S.bind]
      refine wpAny_bind (wpAny_askSetting (wpAny_ite ?_))
      have fin : wpAny (model prog w) A (call (.builtin "object.__ne__") ([.ref x] ++ [bv]) >>= fun v => pure (some v)) (fun r s' => ∃ k, r = some (.bool k) ∧ Q (.bool k) s') E s :=
        wpAny_bind (wpAny_mono hcall (fun v s' ⟨k, e, h'⟩ => wpAny_pure ⟨k, by rw [e], h'⟩) fun _ _ h' => h')
      split
      · exact wpAny_bind (wpAny_pure (wpAny_pure (by exact fin)))
      · exact wpAny_tryCatch (wpAny_bind (wpAny_pure (wpAny_pure (by exact fin))))
    refine wpAny_bind (wpAny_mono bnd (fun r s' ⟨k, e, q⟩ => ?_) fun _ _ e => e)
    subst e
    exact wpAny_pure ⟨_, rfl, q⟩
  unfold richCompare
  simp only [oneThing_ref]
  refine wpAny_holding (wpAny_bind (wpAny_cRoomFor (Nat.lt_of_succ_lt hu) ?_))
  refine wpAny_bind (I.type.here (wpAny_bind (hb.here ?_)))
  split
  · rename_i q
    have e : PySem.W.subIn K tb (.ref C) = some false := by
      rcases Bool.or_eq_true_iff.mp hn with e | e
      · rw [beq_iff_eq.mp e] at q; simp at q
      · exact beq_iff_eq.mp e
    refine wpAny_bind ((PySem.W.looks_subIn X e).here ?_)
    simp only [Bool.false_eq_true, if_false]
    refine wpAny_bind (wpAny_mono one (fun r s' z => ?_) fun _ _ e => e)
    obtain ⟨v, rfl, hq⟩ := z
    exact wpAny_pure hq
  · refine wpAny_bind (wpAny_pure ?_)
    simp only [Bool.false_eq_true, if_false]
    refine wpAny_bind (wpAny_mono one (fun r s' z => ?_) fun _ _ e => e)
    obtain ⟨v, rfl, hq⟩ := z
    exact wpAny_pure hq
theorem op_one (hne : PySem.W.findIn X.K (.ref C) "__ne__" = some (some (.builtin "object.__ne__"))) (hsub : PySem.W.subIn X.K (.ref C) (.type "object") = some true) (hs : PySem.W.findIn X.K (.ref C) "__eq__" = some (some (.ref f))) (hf : PySem.W.isFn X.K (.ref f) = true) (F : FnG X.prog X.w X.K X.mg X.base CX k f fd ps sp) (hr : RoomG (k + 1) X.A) (hu : X.A.units + 1 < cLine) (hb : Binds X.K fd ps []) (hx : Passes CX X W) : OpR X (compareOp .NotEq) (rOeq X.K C sp W true) := by
  intro pins s σ H x y v u Q I rx ry ⟨a, dx, fs, t, ex, ha, ty, nf, h⟩
  subst ex
  obtain rfl : v = Value.ref a := rx
  obtain ⟨ox, od, J⟩ := inst_at I ha
  obtain ⟨m, hF⟩ := I.fr
  obtain ⟨P, Z, pz, _⟩ := kit_of I ry ty
  refine PySem.W.cmp_ofNotEq (ne_own hu hF I.ok.mod.kin J (Z.ty _ _ I.kIn pz) nf hne hsub hs hf (wpAny_mono (run_fnA (vs := [.ref a, y]) F hr.in1 rfl hb hx I (.cons rfl (.cons ry .nil)) h) (fun r s' ⟨z, H3, I3, rz, kb, ez, q⟩ => ?_) fun _ _ z => z))
  subst ez
  obtain rfl : r = Value.bool kb := rz
  exact ⟨kb, rfl, .bl (!kb), H3, I3, rfl, q⟩
/-- len(o) -/
def rOlen (C : Addr) (sp : Sp) (W : XK) : List V → Hp → VK → Prop := fun xs H Q => ∃ a dx fs, xs = [.ref a] ∧ H a = some (.ins C dx fs) ∧ sp [.ref a] H (fun z H3 => ∃ n, z = .int n ∧ 0 ≤ n ∧ n < 2 ^ 63 ∧ Q (.int n) H3) W
theorem call_olen (hs : PySem.W.findIn X.K (.ref C) "__len__" = some (some (.ref f))) (hf : PySem.W.isFn X.K (.ref f) = true) (F : FnG X.prog X.w X.K X.mg X.base CX k f fd ps sp) (hr : RoomG (k + 1) X.A) (hb : Binds X.K fd ps []) (hx : Passes CX X W) : CallR X (.builtin "len") (rOlen C sp W) := by
  intro pins s σ H xs us Q I rv ⟨a, dx, fs, ex, ha, h⟩
  subst ex
  obtain ⟨u, rfl, ru⟩ := vals1 rv
  obtain rfl : u = Value.ref a := ru
  obtain ⟨ox, od, J⟩ := inst_at I ha
  obtain ⟨m, hF⟩ := I.fr
  refine PySem.W.len_K hF I.ok.mod.kin J hs hf (wpAny_mono (run_fnA (vs := [.ref a]) F hr.in1 rfl hb hx I (.cons rfl .nil) h) (fun r s' ⟨z, H3, I3, rz, n, ez, h0, h1, q⟩ => ?_) fun _ _ z => z)
  subst ez
  obtain ⟨t, rfl⟩ : ∃ t, r = Value.int n t := rz
  exact ⟨⟨h0, h1⟩, .int n, H3, I3.tok _, ⟨_, rfl⟩, q⟩
end

/-- operations that may draw or raise -/
def OpM (b : Bx) (W : XK) (r : R2) (F : D → D → M D) : Prop := ∀ {G H : Hp} {n : Nat} {σ : L2.St} {env : PEnv} {x y : V} {d e : D} {Q : VK}, Good b G H σ env n → b.Rep G x d → b.Rep G y e → (F d e).All (PostD b G H Q) (RaiseG b W) n → r x y H Q
def opM (F : D → D → M D) (A B : SE) : SE := fun env => (A env).bind fun x => (B env).bind fun y => F x y
section
variable {X : Cx} {b : Bx} {W : XK} {e a c : Expr} {Fa Fb F : SE} {L : SL} {pos : Pos} {k j : Nat}
theorem topM_use {r : R2} {f : D → D → M D} (hf : OpM b W r f) {σ : L2.St} {H : Hp} {Q : VK} (h : tD b W (opM f Fa Fb) σ H Q) : tOp r (tD b W Fa) (tD b W Fb) σ H Q := by
  obtain ⟨G, env, n, g, q⟩ := h
  refine td_bind (R := RaiseG b W) g q fun v d G1 H1 n1 s1 r1 q1 g1 => td_bind (R := RaiseG b W) g1 q1 fun u e G2 H2 n2 s2 r2 q2 g2 => ?_
  exact hf g2 (r1.mono s2.gg) r2 (M.all_mono q2 (fun d k _ z => PostD.trans (s1.tr s2) z) fun _ _ _ _ z => z)
theorem de_cmpM {op : CmpOp} {r : R2} {f : D → D → M D} (ho : OpR X (compareOp op) r) (hf : OpM b W r f) (ha : PE X a (tD b W Fa)) (hb : PE X c (tD b W Fb)) (hm : behindInMarks op c = false := by first | exact nobehind _ (by decide) (by decide) | rfl) : PE X (.Compare a [op] [c] pos) (tD b W (opM f Fa Fb)) :=
  (pe_cmpR ho ha hb hm).imp fun _ _ _ h => topM_use hf h
theorem dt_cmpM {op : CmpOp} {r : R2} {f : D → D → M D} (ho : OpR X (compareOp op) r) (hf : OpM b W r f) (ha : PE X a (tD b W Fa)) (hb : PE X c (tD b W Fb)) (hm : behindInMarks op c = false := by first | exact nobehind _ (by decide) (by decide) | rfl) : PT X (.Compare a [op] [c] pos) (tT b W (boolT (opM f Fa Fb))) :=
  (pt_cmpR ho ha hb hm).imp fun _ _ _ h => ttest_use (fun _ _ _ z => topM_use hf z) h
def blM (neg : Bool) : D → M D
  | .bl k => .ret (.bl (if neg then !k else k))
  | _ => .fail
def oinF (c : Str) (neg : Bool) (m : Nat) (Fn : Fn) (x y : D) : M D := match y with
  | .ins c' _ => if c' = c then (lenL m [y, x] (Fn [y, x])).bind (blM neg) else .fail
  | _ => .fail
/-- the right ones of an own == -/
structure CmpTab (K : PySem.W.Frag) (mg : Str → Option Value) (C : Addr) (tab : Sum String Str → Bool) : Prop where
  bi : ∀ s, tab (.inl s) = true → s ≠ "pen" ∧ PySem.W.notFirst K C (.type s) = true
  ow : ∀ c, tab (.inr c) = true → ∀ C', mg c = some (.ref C') → TyIns K C' ∧ PySem.W.notFirst K C (.ref C') = true
def oeqF (c : Str) (neg : Bool) (tab : Sum String Str → Bool) (m : Nat) (Fn : Fn) (x y : D) : M D := match x with
  | .ins c' _ => if c' = c ∧ tab (tyOf y) = true then (lenL m [x, y] (Fn [x, y])).bind (blM neg) else .fail
  | _ => .fail
/-- a class's own special method -/
structure Dun (P : Program) (w : World) (K : PySem.W.Frag) (mg : Str → Option Value) (base : Heap) (k : Nat) (c nm : Str) (ps : List Str) (F : Fn) : Prop where
  ex : ∃ (C f : Addr) (fd : FuncData), mg c = some (.ref C) ∧ PySem.W.findIn K (.ref C) nm = some (some (.ref f)) ∧ PySem.W.isFn K (.ref f) = true ∧ FnG P w K mg base (L2.CX P w) k f fd ps (spD K mg ps.length F) ∧ Binds K fd ps []
/-- and what == and != want besides -/
structure DunEq (P : Program) (w : World) (K : PySem.W.Frag) (mg : Str → Option Value) (base : Heap) (k : Nat) (c : Str) (ps : List Str) (F : Fn) (tab : Sum String Str → Bool) : Prop where
  ex : ∃ (C f : Addr) (fd : FuncData), mg c = some (.ref C) ∧ PySem.W.findIn K (.ref C) "__eq__" = some (some (.ref f)) ∧ PySem.W.isFn K (.ref f) = true ∧ FnG P w K mg base (L2.CX P w) k f fd ps (spD K mg ps.length F) ∧ Binds K fd ps [] ∧
    PySem.W.findIn K (.ref C) "__ne__" = some (some (.builtin "object.__ne__")) ∧ PySem.W.subIn K (.ref C) (.type "object") = some true ∧ CmpTab K mg C tab
theorem use_bl {m : Nat} {neg : Bool} {Fn : Fn} {G H : Hp} {σ : L2.St} {env : PEnv} {n : Nat} {Q : VK} {vs : List V} {ds : List D} (g : Good b G H σ env n) (r : b.RepL G vs ds) (q : ((lenL m ds (Fn ds)).bind (blM neg)).All (PostD b G H Q) (RaiseG b W) n) : rD b.K b.mg m Fn vs H (fun z H3 => ∃ k, z = .bl k ∧ Q (.bl (if neg then !k else k)) H3) W := by
  obtain ⟨hl, q1⟩ := lenL_all (M.all_bind q)
  refine use_rD g (r.length.trans hl) r (M.all_mono q1 (fun d k _ z => ?_) fun _ _ _ _ z => z)
  cases d with
  | bl kb =>
    intro v G' H' s rv
    cases rv
    exact ⟨kb, rfl, z _ G' H' s .bl⟩
  | _ => exact z.elim
theorem om_oin {c : Str} {neg : Bool} {m : Nat} {Fn : Fn} {C : Addr} (hC : b.mg c = some (.ref C)) : OpM b W (rOin C (spD b.K b.mg m Fn) W neg) (oinF c neg m Fn) := by
  intro G H n σ env x y d e Q g rx ry q
  cases ry with
  | @ins a C' dx fs gs c' hm' hg' hr' =>
    replace q : (if c' = c then (lenL m [.ins c' gs, d] (Fn [.ins c' gs, d])).bind (blM neg) else .fail).All (PostD b G H Q) (RaiseG b W) n := q
    by_cases hc : c' = c
    · rw [if_pos hc] at q
      subst hc
      rw [hC] at hm'
      cases hm'
      exact ⟨a, dx, fs, rfl, g.le _ _ hg', use_bl g (.cons (.ins hC hg' hr') (.cons rx .nil)) q⟩
    · rw [if_neg hc] at q; exact q.elim
  | _ => exact q.elim
theorem om_oeq {c : Str} {neg : Bool} {m : Nat} {Fn : Fn} {C : Addr} {tab : Sum String Str → Bool} (hC : b.mg c = some (.ref C)) (T : CmpTab b.K b.mg C tab) : OpM b W (rOeq b.K C (spD b.K b.mg m Fn) W neg) (oeqF c neg tab m Fn) := by
  intro G H n σ env x y d e Q g rx ry q
  cases rx with
  | @ins a C' dx fs gs c' hm' hg' hr' =>
    replace q : (if c' = c ∧ tab (tyOf e) = true then (lenL m [.ins c' gs, e] (Fn [.ins c' gs, e])).bind (blM neg) else .fail).All (PostD b G H Q) (RaiseG b W) n := q
    by_cases hc : c' = c ∧ tab (tyOf e) = true
    · rw [if_pos hc] at q
      obtain ⟨rfl, ht⟩ := hc
      rw [hC] at hm'
      cases hm'
      obtain ⟨t1, t2⟩ := tyX_of g.le ry
      have : ∃ t, TyX b.K H y t ∧ PySem.W.notFirst b.K C t = true := by
        cases et : tyOf e with
        | inl s =>
          rw [et] at ht
          obtain ⟨k1, k2⟩ := T.bi s ht
          exact ⟨_, t1 s et k1, k2⟩
        | inr c2 =>
          rw [et] at ht
          obtain ⟨C2, m2, k⟩ := t2 c2 et
          obtain ⟨k1, k2⟩ := T.ow c2 ht C2 m2
          exact ⟨_, k k1, k2⟩
      obtain ⟨t, h1, h2⟩ := this
      exact ⟨a, dx, fs, t, rfl, g.le _ _ hg', h1, h2, use_bl g (.cons (.ins hC hg' hr') (.cons ry .nil)) q⟩
    · rw [if_neg hc] at q; exact q.elim
  | _ => exact q.elim
section
variable {c2 : Str} {ps : List Str} {Fn : Fn} {tab : Sum String Str → Bool}
theorem de_oin {mm : Nat} (cd : Dun X.prog X.w X.K X.mg X.base k c2 "__contains__" ps Fn) (hK : X.K = b.K) (hM : X.mg = b.mg) (hx : Passes (L2.CX X.prog X.w) X W) (hr : RoomG j X.A) (hk : k ≤ j) (ha : PE X a (tD b W Fa)) (hb : PE X c (tD b W Fb)) (hm : behindInMarks .In c = false := by rfl) (hmm : ps.length = mm := by rfl) : PE X (.Compare a [.In] [c] pos) (tD b W (opM (oinF c2 false mm Fn) Fa Fb)) := by
  subst hmm
  obtain ⟨C, f, fd, hC, hs, hf, F, hb'⟩ := cd.ex
  exact de_cmpM (op_oin hs hf F (hr.mono hk) hb' hx) (hK ▸ hM ▸ om_oin (by rw [← hM]; exact hC)) ha hb hm
theorem dt_oin {mm : Nat} (cd : Dun X.prog X.w X.K X.mg X.base k c2 "__contains__" ps Fn) (hK : X.K = b.K) (hM : X.mg = b.mg) (hx : Passes (L2.CX X.prog X.w) X W) (hr : RoomG j X.A) (hk : k ≤ j) (ha : PE X a (tD b W Fa)) (hb : PE X c (tD b W Fb)) (hm : behindInMarks .In c = false := by rfl) (hmm : ps.length = mm := by rfl) : PT X (.Compare a [.In] [c] pos) (tT b W (boolT (opM (oinF c2 false mm Fn) Fa Fb))) := by
  subst hmm
  obtain ⟨C, f, fd, hC, hs, hf, F, hb'⟩ := cd.ex
  exact dt_cmpM (op_oin hs hf F (hr.mono hk) hb' hx) (hK ▸ hM ▸ om_oin (by rw [← hM]; exact hC)) ha hb hm
theorem de_onin {mm : Nat} (cd : Dun X.prog X.w X.K X.mg X.base k c2 "__contains__" ps Fn) (hK : X.K = b.K) (hM : X.mg = b.mg) (hx : Passes (L2.CX X.prog X.w) X W) (hr : RoomG j X.A) (hk : k ≤ j) (ha : PE X a (tD b W Fa)) (hb : PE X c (tD b W Fb)) (hm : behindInMarks .NotIn c = false := by rfl) (hmm : ps.length = mm := by rfl) : PE X (.Compare a [.NotIn] [c] pos) (tD b W (opM (oinF c2 true mm Fn) Fa Fb)) := by
  subst hmm
  obtain ⟨C, f, fd, hC, hs, hf, F, hb'⟩ := cd.ex
  exact de_cmpM (op_onin hs hf F (hr.mono hk) hb' hx) (hK ▸ hM ▸ om_oin (by rw [← hM]; exact hC)) ha hb hm
theorem dt_onin {mm : Nat} (cd : Dun X.prog X.w X.K X.mg X.base k c2 "__contains__" ps Fn) (hK : X.K = b.K) (hM : X.mg = b.mg) (hx : Passes (L2.CX X.prog X.w) X W) (hr : RoomG j X.A) (hk : k ≤ j) (ha : PE X a (tD b W Fa)) (hb : PE X c (tD b W Fb)) (hm : behindInMarks .NotIn c = false := by rfl) (hmm : ps.length = mm := by rfl) : PT X (.Compare a [.NotIn] [c] pos) (tT b W (boolT (opM (oinF c2 true mm Fn) Fa Fb))) := by
  subst hmm
  obtain ⟨C, f, fd, hC, hs, hf, F, hb'⟩ := cd.ex
  exact dt_cmpM (op_onin hs hf F (hr.mono hk) hb' hx) (hK ▸ hM ▸ om_oin (by rw [← hM]; exact hC)) ha hb hm
theorem de_oeq {mm : Nat} (cd : DunEq X.prog X.w X.K X.mg X.base k c2 ps Fn tab) (hK : X.K = b.K) (hM : X.mg = b.mg) (hx : Passes (L2.CX X.prog X.w) X W) (hr : RoomG j X.A) (hk : k ≤ j) (ha : PE X a (tD b W Fa)) (hb : PE X c (tD b W Fb)) (hmm : ps.length = mm := by rfl) : PE X (.Compare a [.Eq] [c] pos) (tD b W (opM (oeqF c2 false tab mm Fn) Fa Fb)) := by
  subst hmm
  obtain ⟨C, f, fd, hC, hs, hf, F, hb', _, _, T⟩ := cd.ex
  exact de_cmpM (op_oeq hs hf F (hr.mono hk) hb' hx) (hK ▸ hM ▸ om_oeq (by rw [← hM]; exact hC) (by rw [← hM, ← hK]; exact T)) ha hb
theorem dt_oeq {mm : Nat} (cd : DunEq X.prog X.w X.K X.mg X.base k c2 ps Fn tab) (hK : X.K = b.K) (hM : X.mg = b.mg) (hx : Passes (L2.CX X.prog X.w) X W) (hr : RoomG j X.A) (hk : k ≤ j) (ha : PE X a (tD b W Fa)) (hb : PE X c (tD b W Fb)) (hmm : ps.length = mm := by rfl) : PT X (.Compare a [.Eq] [c] pos) (tT b W (boolT (opM (oeqF c2 false tab mm Fn) Fa Fb))) := by
  subst hmm
  obtain ⟨C, f, fd, hC, hs, hf, F, hb', _, _, T⟩ := cd.ex
  exact dt_cmpM (op_oeq hs hf F (hr.mono hk) hb' hx) (hK ▸ hM ▸ om_oeq (by rw [← hM]; exact hC) (by rw [← hM, ← hK]; exact T)) ha hb
theorem de_one_ {mm : Nat} (cd : DunEq X.prog X.w X.K X.mg X.base k c2 ps Fn tab) (hK : X.K = b.K) (hM : X.mg = b.mg) (hx : Passes (L2.CX X.prog X.w) X W) (hr : RoomG j X.A) (hk : k + 1 ≤ j) (ha : PE X a (tD b W Fa)) (hb : PE X c (tD b W Fb)) (hmm : ps.length = mm := by rfl) : PE X (.Compare a [.NotEq] [c] pos) (tD b W (opM (oeqF c2 true tab mm Fn) Fa Fb)) := by
  subst hmm
  obtain ⟨C, f, fd, hC, hs, hf, F, hb', h1, h2, T⟩ := cd.ex
  exact de_cmpM (op_one h1 h2 hs hf F (hr.mono hk) (hu1 hr) hb' hx) (hK ▸ hM ▸ om_oeq (by rw [← hM]; exact hC) (by rw [← hM, ← hK]; exact T)) ha hb
theorem dt_one_ {mm : Nat} (cd : DunEq X.prog X.w X.K X.mg X.base k c2 ps Fn tab) (hK : X.K = b.K) (hM : X.mg = b.mg) (hx : Passes (L2.CX X.prog X.w) X W) (hr : RoomG j X.A) (hk : k + 1 ≤ j) (ha : PE X a (tD b W Fa)) (hb : PE X c (tD b W Fb)) (hmm : ps.length = mm := by rfl) : PT X (.Compare a [.NotEq] [c] pos) (tT b W (boolT (opM (oeqF c2 true tab mm Fn) Fa Fb))) := by
  subst hmm
  obtain ⟨C, f, fd, hC, hs, hf, F, hb', h1, h2, T⟩ := cd.ex
  exact dt_cmpM (op_one h1 h2 hs hf F (hr.mono hk) (hu1 hr) hb' hx) (hK ▸ hM ▸ om_oeq (by rw [← hM]; exact hC) (by rw [← hM, ← hK]; exact T)) ha hb
/-- len(o) -/
def olenE (c : Str) (m : Nat) (Fn : DL.Fn) (A : SE) : SE := fun env => (A env).bind fun x => match x with
  | .ins c' _ => if c' = c then (lenL m [x] (Fn [x])).bind fun r => match r with
      | .int n => if 0 ≤ n ∧ n < 2 ^ 63 then .ret (.int n) else .fail
      | _ => .fail
    else .fail
  | _ => .fail
theorem de_olen {mm : Nat} {p : Pos} (cd : Dun X.prog X.w X.K X.mg X.base k c2 "__len__" ps Fn) (hK : X.K = b.K) (hM : X.mg = b.mg) (hx : Passes (L2.CX X.prog X.w) X W) (hr : RoomG j X.A) (hk : k + 1 ≤ j) (hg : Gl X "len") (hm : X.mg "len" = none) (ha : PE X a (tD b W Fa))
    (he : starEach [a] X.env = (false, eval a X.env) :: starEach [] X.env := by rfl) (hmm : ps.length = mm := by rfl) : PE X (.Call (.Name "len" p) [a] [] pos) (tD b W (olenE c2 mm Fn Fa)) := by
  subst hmm
  obtain ⟨C, f, fd, hC, hs, hf, F, hb'⟩ := cd.ex
  refine (pe_callB (call_olen hs hf F (hr.mono hk) hb' hx) hg hm (by decide +kernel) (pa_cons ha pa_nil he) (by decide) (by decide) he).imp fun σ H Q ⟨G, env, n, g, q⟩ => ?_
  refine td_bind (R := RaiseG b W) g q fun v d G1 H1 n1 s1 r1 q1 g1 => ?_
  cases r1 with
  | @ins a C' dx fs gs c' hm' hg' hr' =>
    replace q1 : (if c' = c2 then (lenL ps.length [.ins c' gs] (Fn [.ins c' gs])).bind (fun r => match r with
      | .int n => if 0 ≤ n ∧ n < 2 ^ 63 then M.ret (D.int n) else .fail
      | _ => .fail) else .fail).All (PostD b G H Q) (RaiseG b W) n1 := q1
    by_cases hc : c' = c2
    · rw [if_pos hc] at q1
      subst hc
      rw [← hM, hC] at hm'
      cases hm'
      obtain ⟨hl, q2⟩ := lenL_all (M.all_bind q1)
      refine ⟨a, dx, fs, rfl, g1.le _ _ hg', ?_⟩
      show rD X.K X.mg ps.length Fn _ H1 _ W
      rw [hK, hM]
      refine use_rD g1 hl (.cons (.ins (by rw [← hM]; exact hC) hg' hr') .nil) (M.all_mono q2 (fun d k _ z => ?_) fun _ _ _ _ z => z)
      cases d with
      | int i =>
        replace z : (if 0 ≤ i ∧ i < 2 ^ 63 then M.ret (D.int i) else .fail).All (PostD b G H Q) (RaiseG b W) k := z
        by_cases hi : 0 ≤ i ∧ i < 2 ^ 63
        · rw [if_pos hi] at z
          intro v G' H' s rv
          cases rv
          exact ⟨i, rfl, hi.1, hi.2, z _ G' H' (s1.tr s) .int⟩
        · rw [if_neg hi] at z; exact z.elim
      | _ => exact z.elim
    · rw [if_neg hc] at q1; exact q1.elim
  | _ => exact q1.elim
end
end
end DL

set_option Elab.async false
set_option linter.all false
set_option maxRecDepth 100000
set_option maxHeartbeats 4000000
/-! The data layer: own __iter__ that hands out iter(self.f), f a tuple. -/
namespace DL
open PySem PySem.Spec L2

def ItT (t it : Addr) : HO := .ext fun h => h.IsTupleIter it t 0
theorem itT_ok {P : Program} {w : World} {H : Hp} {h : Heap} {t it : Addr} (e : h.IsTupleIter it t 0) : ObjOk P w H h it (ItT t it) := ⟨e, (by obtain ⟨o, q, _⟩ := e; exact ⟨o, q⟩), fun h1 h2 ⟨o, q, r⟩ k => ⟨o, k _ q, r⟩⟩
def rIterT (K : PySem.W.Frag) (n : Nat) : List V → Hp → VK → Prop := fun xs H Q => ∃ (t : Addr) (zs : List V), xs = [.ref t] ∧ SqT K H t zs ∧ ∀ it, H it = none → n ≤ it → Q (.ref it) (upd H it (ItT t it))
/-- what such an __iter__ promises -/
def spIter (K : PySem.W.Frag) (C : Addr) (fld : Str) (n : Nat) : Sp := fun vs H Q _ => ∃ a dx fs t ys, vs = [.ref a] ∧ H a = some (.ins C dx fs) ∧ fs.lookup fld = some (.ref t) ∧ SqT K H t ys ∧ ∀ it, H it = none → n ≤ it → Q (.ref it) (upd H it (ItT t it))
section
variable {X : Cx} {b : Bx} {W : XK} {tg e : Expr} {pos : Pos} {k j : Nat} {C f : Addr} {fd : FuncData} {ps : List Str}
theorem call_iterT : CallR X (.builtin "iter") (rIterT X.K X.s_0.heap.objs.size) := by
  intro pins s σ H xs us Q I r h
  obtain ⟨l, zs, rfl, hq, q⟩ := h
  obtain ⟨u, rfl, ru⟩ := vals1 r
  cases ru
  obtain ⟨its, rv, p, hz⟩ := I.tuple hq
  refine Calls.call_function_entry (by decide +kernel) (by decide +kernel) PySem.W.kdk_entry_iter (PySem.W.kdk_args_iter _) ?_
  unfold Builtin.«iter»
  refine wpAny_bind (m := someArgs "iter" 1 2 _) (wpAny_of_eq (a := [Value.ref l]) (by first | rfl | kernel_rfl!) ?_)
  show wpAny _ _ (pyIter (.ref l) >>= _) _ _ _
  refine wpAny_bind (wpAny_pyIter_tuple (show s.heap.IsTuple l its.toArray from p) ?_)
  refine wpAny_pure ⟨_, rfl, ?_⟩
  exact ⟨.ref s.heap.objs.size, _, I.laid (t' := s.toks) (fun b u e => Heap.get?_push_of_some _ e) (Nat.le_refl _) (itT_ok ⟨_, Heap.get?_push_size _ rfl, rfl, rfl⟩), rfl, q _ (I.hok.fresh (Nat.le_refl _)) I.sz⟩
/-- for x in o, o an instance of C with such an __iter__ -/
theorem pi_own {fld : Str} {te : TE} (hs : PySem.W.findIn X.K (.ref C) "__iter__" = some (some (.ref f))) (hf : PySem.W.isFn X.K (.ref f) = true) (F : FnS X.prog X.w X.K X.mg X.base (L2.CX X.prog X.w) k f fd ["self"] (spIter X.K C fld)) (hr : RoomG k X.A) (hb : Binds X.K fd ["self"] []) (hx : Passes (L2.CX X.prog X.w) X W)
    (he : PE X e te) : PI X tg e (fun σ H R => te σ H fun x H1 => ∃ a dx fs t ys, x = .ref a ∧ H1 a = some (.ins C dx fs) ∧ fs.lookup fld = some (.ref t) ∧ SqT X.K H1 t ys ∧ R (Itt X.K t) H1) := by
  refine ⟨fun pins s0 σ H0 R I0 h => thn (he.run pins s0 σ H0 _ I0 h) fun v s ⟨x, H, I, rx, a, dx, fs, t, ys, ex, ha, hl, ht, q⟩ => ?_⟩
  subst ex
  obtain rfl : v = Value.ref a := rx
  obtain ⟨ox, od, J⟩ := inst_at I ha
  obtain ⟨m, hF⟩ := I.fr
  refine PySem.W.owit_iter hF I.ok.mod.kin J hs hf ?_
  have hsp : spIter X.K C fld s.heap.objs.size [.ref a] H (fun z H' => ∃ it, z = .ref it ∧ H it = none ∧ s.heap.objs.size ≤ it ∧ H' = upd H it (ItT t it)) W := ⟨a, dx, fs, t, ys, rfl, ha, hl, ht, fun it hit hn => ⟨it, rfl, hit, hn, rfl⟩⟩
  have r : Vals [V.ref a] [Value.ref a] := .cons rfl .nil
  refine wpAny_call (codeAny_mono (F X.A X.stack s H ⟨[.ref a], []⟩ [.ref a] [.ref a] _ W hr I.env0 (by
    have := hb s [.ref a] I.kIn rfl
    rw [List.append_nil] at this
    exact this) r rfl hsp) fun r s' hq => ?_)
  cases r with
  | error e => exact hx pins σ H s e s' I hq
  | ok fl =>
    cases fl with
    | next => exact False.elim hq
    | brk => exact False.elim hq
    | cont => exact False.elim hq
    | ret u =>
      obtain ⟨z, H2, I2, rz, it, ez, hit, hy, eH⟩ := I.after hq
      subst ez eH
      obtain rfl : u = Value.ref it := rz
      have st : s'.heap.IsTupleIter it t 0 := (I2.hok it _ upd_same).1
      unfold PySem.W.OwitIt
      refine wpAny_specialOf (name := Str.ofString "__next__") st.typeIs PySem.F.slot_tuple_iterator_next.lookup ?_
      have I3 := ItX.inv_drop (φ := fun h => h.IsTupleIter it t 0) I2 upd_same
      have fp := ItX.inv_fp I2 upd_same (Nat.le_trans I.sz hy)
      rw [ItX.dropH_upd hit] at I3 fp
      exact ⟨it, [it], _, _, H, rfl, I3, turn_tuple t it, st, fun b hb => by
        have e : b = it := by simpa using hb
        subst e
        exact fp, q⟩
/-- the items of an own object's field f, a tuple, by its __iter__ -/
def ownI (c fld : Str) (F : SE) : SL := fun env => (F env).bind fun d => match d with
  | .ins c' fs => if c' = c then match fs.lookup fld with
      | some (.tup xs) => .ret xs
      | _ => .fail
    else .fail
  | _ => .fail
structure DunIt (P : Program) (w : World) (K : PySem.W.Frag) (mg : Str → Option Value) (base : Heap) (k : Nat) (c fld : Str) : Prop where
  ex : ∃ (C f : Addr) (fd : FuncData), mg c = some (.ref C) ∧ PySem.W.findIn K (.ref C) "__iter__" = some (some (.ref f)) ∧ PySem.W.isFn K (.ref f) = true ∧ FnS P w K mg base (L2.CX P w) k f fd ["self"] (spIter K C fld) ∧ Binds K fd ["self"] []
theorem di_own {c fld : Str} {F : SE} (cd : DunIt X.prog X.w X.K X.mg X.base k c fld) (hK : X.K = b.K) (hM : X.mg = b.mg) (hx : Passes (L2.CX X.prog X.w) X W) (hr : RoomG j X.A) (hk : k ≤ j) (h : PE X e (tD b W F)) : PI X tg e (tI b W (ownI c fld F)) := by
  obtain ⟨C, f, fd, hC, hs, hf, Fs, hb⟩ := cd.ex
  refine (pi_own hs hf Fs (hr.mono hk) hb hx h).imp fun σ H R ⟨G, env, n, g, q⟩ => ?_
  refine td_bind (R := RaiseG b W) g q fun v d G1 H1 n1 s1 r1 q1 g1 => ?_
  cases r1 with
  | @ins a C' dx fs gs c' hm' hg' hr' =>
    replace q1 : (if c' = c then match gs.lookup fld with
      | some (.tup xs) => M.ret xs
      | _ => .fail
    else .fail).All (PostI b G H R) (RaiseG b W) n1 := q1
    by_cases hc : c' = c
    · rw [if_pos hc] at q1
      subst hc
      rw [← hM, hC] at hm'
      cases hm'
      split at q1
      · rename_i xs el
        obtain ⟨u, e1, r2⟩ := hr'.lookup el
        cases r2 with
        | @tup t vs ds hl hv =>
          refine ⟨a, dx, fs, t, vs, rfl, g1.le _ _ hg', e1, hK ▸ sqT_mono g1.le hl, q1 _ G1 H1 s1 (walk_at (vs := vs) ?_ hv)⟩
          exact walk_tup.mono (fun H hs => hK ▸ sqT_mono hs hl) fun i H x H' _ _ y => y
      · exact q1.elim
    · rw [if_neg hc] at q1; exact q1.elim
  | _ => exact q1.elim
end
end DL

set_option Elab.async false
set_option linter.all false
set_option maxRecDepth 100000
set_option maxHeartbeats 4000000
/-! The data layer: repr of lists and tuples. -/
namespace DL
open PySem PySem.Spec L2

def reprP (p : PyData) : Option D := if (p.showable && !p.hasDict && decide (p.depth ≤ 64) && decide (p.shown.length ≤ 16777216)) = true then some (.str p.shown) else none
def reprF : List D → Option D
  | [.tup l] => (toPy (.tup l)).bind reprP
  | [.lst l] => (toPy (.lst l)).bind reprP
  | _ => none
theorem reprP_some {p : PyData} {c : D} (h : reprP p = some c) : p.showable = true ∧ p.hasDict = false ∧ p.depth ≤ 64 ∧ p.shown.length ≤ 16777216 ∧ c = .str p.shown := by
  unfold reprP at h
  split at h
  · rename_i q
    cases h
    simp only [Bool.and_eq_true, Bool.not_eq_true', decide_eq_true_iff] at q
    exact ⟨q.1.1.1, q.1.1.2, q.1.2, q.2, rfl⟩
  · cases h
section
variable {X : Cx} {b : Bx}
theorem cb_repr (hK : X.K = b.K) : CbD b (rRepr X.K) reprF := fun {G H n xs ds c Q} s p r h q => by
  have fin : ∀ {v : V} {d : D}, (∃ a, v = .ref a) → b.Rep G v d → (toPy d).bind reprP = some c → rRepr X.K [v] H Q := by
    intro v d ⟨a, ea⟩ rv e
    subst ea
    obtain ⟨x, e1, e2⟩ := Option.bind_eq_some_iff.mp e
    obtain ⟨h1, h2, h3, h4, rfl⟩ := reprP_some e2
    exact ⟨a, x, rfl, hK ▸ dp_mono s (rep_dp rv e1), h1, h2, h3, by rw [sizeLine_eq]; exact h4, q _ G H (Step.refl s p) .str⟩
  unfold reprF at h
  split at h
  · cases r with | cons r t => cases t; exact fin (by cases r; exact ⟨_, rfl⟩) r h
  · cases r with | cons r t => cases t; exact fin (by cases r; exact ⟨_, rfl⟩) r h
  · cases h
end
end DL

set_option Elab.async false
set_option linter.all false
set_option maxRecDepth 100000
set_option maxHeartbeats 4000000
/-! The data layer: a law that draws from its script by a pen. -/
namespace DL
open PySem PySem.Spec L2

theorem lk_mem {α β : Type} [BEq α] [LawfulBEq α] {x : α} {r : β} : ∀ {l : List (α × β)}, l.lookup x = some r → (x, r) ∈ l
  | [], h => by simp at h
  | (k, v) :: t, h => by
    rw [List.lookup_cons] at h
    split at h
    · rename_i e
      have e := eq_of_beq e
      cases h
      subst e
      exact List.mem_cons_self
    · exact List.mem_cons_of_mem _ (lk_mem h)
theorem kit_own {K : PySem.W.Frag} {C : Addr} {s : String} {r : Bool} (hc : PySem.W.isClsIn K C = true) (ht : PySem.W.typeIn K (.ref C) = some (.type "type")) (hs : PySem.W.subIn K (.type s) (.ref C) = some r) : PySem.W.kitOne K (.type s) (.ref C) = some r := by
  unfold PySem.W.kitOne
  rw [if_neg (by simp)]
  show (if ((PySem.W.clsIn K C).isSome && PySem.W.typeIn K (.ref C) == some (.type "type")) = true then PySem.W.subIn K (.type s) (.ref C) else none) = some r
  rw [if_pos (by rw [show (PySem.W.clsIn K C).isSome = true from hc, ht]; decide)]
  exact hs
theorem kit_blt {K : PySem.W.Frag} {C : Addr} {s : String} {r : Bool} (hm : PySem.W.kitMeta s = true) (hs : PySem.W.subIn K (.ref C) (.type s) = some r) : PySem.W.kitOne K (.ref C) (.type s) = some r := by
  unfold PySem.W.kitOne
  rw [if_neg (by simp)]
  show (if PySem.W.kitMeta s = true then PySem.W.subIn K (.ref C) (.type s) else none) = some r
  rw [if_pos hm]
  exact hs
def penK (l : Addr) (a f : Int) : List (Key × V) := [(.inr "cells", .ref l), (.inr "at", .int a), (.inr "left", .int f)]
/-- the promise of _law_pen -/
def spPen (K : PySem.W.Frag) : Sp := fun vs H Q _ => ∃ (a : Addr) (ns : List Int), vs = [.ref a] ∧ SqL K H a (ns.map V.int) ∧ ns.length ≤ 63 ∧
  ∀ (p l : Addr) (cells : List Int) (H' : Hp), cells.length ≤ 63 → H p = none → H l = none → l ≠ p → H' p = some (.dK (penK l 0 0)) → H' l = some (.lst (cells.map V.int)) → (∀ b o, H b = some o → H' b = some o) → Q (.ref p) H'
/-- the promise of law -/
def spLaw (K : PySem.W.Frag) : Sp := fun vs H Q _ => ∃ (a : Addr) (ns : List Int), vs = [.ref a] ∧ SqL K H a (ns.map V.int) ∧ ns.length ≤ 63 ∧ ∀ H', Q (.bl true) H'
def env0 (n : Nat) : PEnv := .no :: .val .pen :: List.replicate n .no
def isTrue (r : Fl × PEnv) : Prop := match r.1 with
  | .rt (.bl true) => True
  | _ => False
theorem law_use {K : PySem.W.Frag} {mg : Str → Option Value} {n : Nat} {B : SS} {a p l : Addr} {cells : List Int} {H' : Hp} {Q : VK} {E : XK} (hB : (B (env0 n)).All (fun r _ => isTrue r) (fun _ _ _ => False) 100000) (hc : cells.length ≤ 63) (hn : l ≠ p) (hp : H' p = some (.dK (penK l 0 0))) (hl : H' l = some (.lst (cells.map V.int))) (q : ∀ H', Q (.bl true) H') :
    ∃ b : Bx, b.K = K ∧ b.mg = mg ∧ tS b E B { nx := fun _ H' => Q .non H', rt := Q } (some (.ref a) :: some (.ref p) :: List.replicate n none) H' := by
  have hG : ∀ x o, (upd (fun _ => none) l (.lst (cells.map V.int)) : Hp) x = some o → x = l ∧ o = .lst (cells.map V.int) := fun x o e => by
    by_cases z : x = l
    · subst z; rw [upd_same] at e; cases e; exact ⟨rfl, rfl⟩
    · rw [upd_ne z] at e; cases e
  refine ⟨⟨K, mg, some (p, l), upd (fun _ => none) l (.lst (cells.map V.int)), H', fun _ => False⟩, rfl, rfl, upd (fun _ => none) l (.lst (cells.map V.int)), env0 n, 100000, ?_, M.all_mono hB (fun r k _ z G2 H2 σ2 s2 g2 => ?_) fun _ _ _ _ z => z.elim⟩
  · refine ⟨fun x o e => ?_, Same.refl _, fun x h _ => h, fun x o h _ _ => h, fun p' l' e => ?_, ?_, fun i s e => ?_, fun x h => h.elim, fun i j d e x h1 _ _ _ => ?_⟩
    · obtain ⟨rfl, rfl⟩ := hG x o e; exact hl
    · cases e
      exact ⟨by rw [upd_ne (fun z => hn z.symm)], cells, 0, 0, hp, upd_same, hc, by omega, by omega, by omega⟩
    · unfold env0
      rw [List.length_cons, List.length_cons, List.length_cons, List.length_cons, List.length_replicate, List.length_replicate]
    · match i, e with
      | 0, e => cases e; trivial
      | 1, e => cases e; exact ⟨.ref p, rfl, .pen ⟨l, rfl⟩⟩
      | i + 2, e =>
        have e : (List.replicate n Slot.no)[i]? = some s := e
        rw [List.getElem?_replicate] at e
        split at e
        · cases e; trivial
        · cases e
    · match i, h1 with
      | 0, h => cases h
      | 1, h => cases h
      | i + 2, h =>
        have h : (List.replicate n Slot.no)[i]? = some (Slot.own d) := h
        rw [List.getElem?_replicate] at h
        split at h <;> cases h
  · obtain ⟨fl, env'⟩ := r
    cases fl with
    | rt d =>
      intro v rv
      cases d with
      | bl k =>
        cases k with
        | true => cases rv; exact q _
        | false => exact z.elim
      | _ => exact z.elim
    | _ => exact z.elim
section
variable {X : Cx} {W : XK}
/-- a block whose background is chosen when it is come to -/
theorem pss_any {sts : List Stmt} {B : SS} {K : PySem.W.Frag} {mg : Str → Option Value} (h : ∀ b : Bx, b.K = K → b.mg = mg → PSs X sts (tS b W B)) : PSs X sts (fun D σ H => ∃ b : Bx, b.K = K ∧ b.mg = mg ∧ tS b W B D σ H) := ⟨fun pins s σ H D I ⟨b, h1, h2, z⟩ => (h b h1 h2).run pins s σ H D I z⟩
end
end DL

set_option Elab.async false
set_option linter.all false
set_option maxRecDepth 100000
set_option maxHeartbeats 4000000

namespace K00
open PySem PySem.Spec L2 DL
def top (i : Nat) : Stmt := PySem.Challenge.pw_joinflags_k00_bars_made_and_asked.main.body.getD i (.Pass ⟨0, 0, 0, 0⟩)
def fc_ends : List Str := ["Bars"]
def fc_signs : List Str := ["Bars"]
def fc_words : List Str := ["Bars"]
def ti_Bars : Sum String Str → Option Bool := fun t => match t with | .inl x => ([("NoneType", false), ("bool", false), ("int", false), ("str", false), ("tuple", false), ("list", false), ("dict", false)] : List (String × Bool)).lookup x | .inr c => ([("Bars", true)] : List (Str × Bool)).lookup c
def ti_list : Sum String Str → Option Bool := fun t => match t with | .inl x => ([("NoneType", false), ("bool", false), ("int", false), ("str", false), ("tuple", false), ("list", true), ("dict", false)] : List (String × Bool)).lookup x | .inr c => ([("Bars", false)] : List (Str × Bool)).lookup c
def ti_str : Sum String Str → Option Bool := fun t => match t with | .inl x => ([("NoneType", false), ("bool", false), ("int", false), ("str", true), ("tuple", false), ("list", false), ("dict", false)] : List (String × Bool)).lookup x | .inr c => ([("Bars", false)] : List (Str × Bool)).lookup c
def ti_tuple : Sum String Str → Option Bool := fun t => match t with | .inl x => ([("NoneType", false), ("bool", false), ("int", false), ("str", false), ("tuple", true), ("list", false), ("dict", false)] : List (String × Bool)).lookup x | .inr c => ([("Bars", false)] : List (Str × Bool)).lookup c
def te_Bars : Sum String Str → Bool := fun t => match t with | .inl x => decide (x = "NoneType" ∨ x = "bool" ∨ x = "int" ∨ x = "str" ∨ x = "tuple" ∨ x = "list" ∨ x = "dict") | .inr c => decide (c = "Bars")
structure Txt (K : PySem.W.Frag) (mg : Str → Option Value) : Prop where
  b_abs : mg "abs" = none
  b_all : mg "all" = none
  b_any : mg "any" = none
  b_int : mg "int" = none
  b_isinstance : mg "isinstance" = none
  b_iter : mg "iter" = none
  b_len : mg "len" = none
  b_list : mg "list" = none
  b_range : mg "range" = none
  b_repr : mg "repr" = none
  b_sorted : mg "sorted" = none
  b_str : mg "str" = none
  b_tuple : mg "tuple" = none
  c_MOST_ENDS : ∃ u, mg "MOST_ENDS" = some u ∧ RelV (.int 16) u
  c_MOST_LETTERS : ∃ u, mg "MOST_LETTERS" = some u ∧ RelV (.int 6) u
  c_MOST_SIGNS : ∃ u, mg "MOST_SIGNS" = some u ∧ RelV (.int 4) u
  c_MOST_WORDS : ∃ u, mg "MOST_WORDS" = some u ∧ RelV (.int 6) u
  c_SIGNS : ∃ u, mg "SIGNS" = some u ∧ RelV (.str "0123456789abcdefghijklmnopqrstuvwxyz") u
  f_ends : FldOk K mg fc_ends "ends"
  f_signs : FldOk K mg fc_signs "signs"
  f_words : FldOk K mg fc_words "words"
  g_Bars : ∃ C, mg "Bars" = some (.ref C)
  i_Bars : ∀ C, mg "Bars" = some (.ref C) → IsiTab K mg (.ref C) ti_Bars
  i_list : IsiTab K mg (.type "list") ti_list
  i_str : IsiTab K mg (.type "str") ti_str
  i_tuple : IsiTab K mg (.type "tuple") ti_tuple
section
variable {P : Program} {w : World} {K : PySem.W.Frag} {mg : Str → Option Value} {base : Heap}
def F__law_draw : DL.Fn := fun ds => match ds with
  | [.pen, .int m] => if 0 < m ∧ m < 1073741824 then .draw m.toNat fun i => .ret (.int (i : Int)) else .fail
  | _ => .fail
theorem kk1 : ¬ (Sum.inr ("cells" : Str) : Key) = Sum.inr ("at" : Str) := by decide +kernel
theorem kk2 : ¬ (Sum.inr ("cells" : Str) : Key) = Sum.inr ("left" : Str) := by decide +kernel
theorem kk3 : ¬ (Sum.inr ("at" : Str) : Key) = Sum.inr ("left" : Str) := by decide +kernel
theorem vc {l : Addr} {a f : Int} : valV (penK l a f) (Sum.inr ("cells" : Str) : Key) = some (.ref l) := valV_pos rfl
theorem va {l : Addr} {a f : Int} : valV (penK l a f) (Sum.inr ("at" : Str) : Key) = some (.int a) := (valV_neg kk1).trans (valV_pos rfl)
theorem vl {l : Addr} {a f : Int} : valV (penK l a f) (Sum.inr ("left" : Str) : Key) = some (.int f) := (valV_neg kk2).trans ((valV_neg kk3).trans (valV_pos rfl))
theorem pa' {l : Addr} {a f : Int} (x : Int) : putK (penK l a f) (Sum.inr ("at" : Str) : Key) (.int x) = penK l x f := by
  unfold putK
  rw [valV_any, va]
  simp only [Option.isSome_some, if_true, penK, List.map_cons, List.map_nil, if_neg kk1, if_neg (fun z => kk3 (Eq.symm z)), if_true]
theorem pl' {l : Addr} {a f : Int} (x : Int) : putK (penK l a f) (Sum.inr ("left" : Str) : Key) (.int x) = penK l a x := by
  unfold putK
  rw [valV_any, vl]
  simp only [Option.isSome_some, if_true, penK, List.map_cons, List.map_nil, if_neg kk2, if_neg kk3]
theorem gC {H : Hp} {p l : Addr} {a f : Int} (h : H p = some (.dK (penK l a f))) : DGet H p (.str "cells") (some (.ref l)) := by
  have := DGet.k (k := Sum.inr ("cells" : Str)) h
  rw [vc] at this
  exact this
theorem gA {H : Hp} {p l : Addr} {a f : Int} (h : H p = some (.dK (penK l a f))) : DGet H p (.str "at") (some (.int a)) := by
  have := DGet.k (k := Sum.inr ("at" : Str)) h
  rw [va] at this
  exact this
theorem gL {H : Hp} {p l : Addr} {a f : Int} (h : H p = some (.dK (penK l a f))) : DGet H p (.str "left") (some (.int f)) := by
  have := DGet.k (k := Sum.inr ("left" : Str)) h
  rw [vl] at this
  exact this
theorem uA {H : Hp} {p l : Addr} {a f : Int} (x : Int) (h : H p = some (.dK (penK l a f))) : DPut H p (.str "at") (.int x) (upd H p (.dK (penK l x f))) := by
  have := DPut.k (k := Sum.inr ("at" : Str)) (v := .int x) h (by rw [sizeLine_eq]; show 3 < 16777216; omega)
  rw [pa'] at this
  exact this
theorem uL {H : Hp} {p l : Addr} {a f : Int} (x : Int) (h : H p = some (.dK (penK l a f))) : DPut H p (.str "left") (.int x) (upd H p (.dK (penK l a x))) := by
  have := DPut.k (k := Sum.inr ("left" : Str)) (v := .int x) h (by rw [sizeLine_eq]; show 3 < 16777216; omega)
  rw [pl'] at this
  exact this
theorem itD {c A B : Prop} [Decidable c] (h1 : c → A) (h2 : ¬ c → B) : if decide c = true then A else B := by
  by_cases h : c
  · rw [if_pos (decide_eq_true h)]; exact h1 h
  · rw [if_neg (by simpa using h)]; exact h2 h
theorem dpAll_ints {K : PySem.W.Frag} {H : Hp} : ∀ ns : List Int, DpAll K H (ns.map V.int) (ns.map PyData.int)
  | [] => .nil
  | n :: ns => .cons (.int n) (dpAll_ints ns)
theorem pow10_18 : ((10 : Int) ^ (18 : Int).toNat) = 1000000000000000000 := by decide +kernel
theorem rep_pen_int {K : PySem.W.Frag} {mg : Str → Option Value} {pn : Pn} {G : Hp} {vs : List V} {m : Int} (h : DL.RepL K mg pn G vs [.pen, .int m]) : ∃ p, vs = [.ref p, .int m] ∧ IsPen pn p := by
  cases h with
  | cons r0 t =>
    cases t with
    | cons r2 t =>
      cases t
      cases r2
      cases r0 with
      | pen hp => exact ⟨_, rfl, hp⟩
abbrev st__law_draw : Stmt := top 23
theorem sc__law_draw : FnScope ["pen", "many", "digit", "at", "cell", "great", "mixed"] ["pen", "many"] (defScope st__law_draw) := ⟨rfl, rfl, rfl, by decide +kernel, rfl, by decide +kernel, by decide +kernel⟩
theorem ok__law_draw {f : Addr} {fd : FuncData} (F : L2.Fun K "_law_draw" "_law_draw" st__law_draw f fd) (T : Txt K mg) : FnG P w K mg base (L2.CX P w) 1 f fd ["pen", "many"] (spD K mg 2 F__law_draw) := by
  refine okG F sc__law_draw (fun vs H Q E h => ?_) (fun cdv A outer s H vs Q E hr h => ?_)
  · obtain ⟨_, _, _, _, _, _, hl, _⟩ := h
    exact hl
  · obtain ⟨b, G, ds, n, hK, hM, hl, s1, p1, r1, q⟩ := h
    have hu := DL.hu_of hr
    have nd := sc__law_draw.nd
    subst hK hM
    unfold F__law_draw at q
    split at q
    rotate_left
    · exact q.elim
    rename_i m
    split at q
    rotate_left
    · exact q.elim
    rename_i hm
    obtain ⟨n', rfl, q⟩ := q
    obtain ⟨p, rfl, l, hp⟩ := rep_pen_int r1
    obtain ⟨gp, cells, a, left, hH, gl, hlen, ha0, han, hl0⟩ := p1 p l hp
    have hH : H p = some (.dK (penK l a left)) := hH
    have nlp : l ≠ p := ne_of_none gl gp
    have hlH : H l = some (.lst (cells.map V.int)) := s1 _ _ gl
    have out : ∀ (a' f' r : Int) (H' : Hp), H' p = some (.dK (penK l a' f')) → (∀ c o, H c = some o → c ≠ p → H' c = some o) → 0 ≤ a' → a' ≤ a + 1 → 0 ≤ f' → 0 ≤ r → r < m → Q (.int r) H' := by
      intro a' f' r H' h1 h2 h3 h4 h5 h6 h7
      have e : ((r.toNat : Nat) : Int) = r := Int.toNat_of_nonneg h6
      have : PostD b G H Q (.int ((r.toNat : Nat) : Int)) n' := q r.toNat (by omega)
      rw [e] at this
      refine this _ G H' ⟨Same.refl G, fun c o z => h2 c o (s1 c o z) (ne_of_none z gp), fun c z _ => z, fun c o z y => h2 c o z fun w => y ⟨l, by rw [w]; exact hp⟩, fun p' l' e' => ?_⟩ .int
      rw [hp] at e'
      cases e'
      exact ⟨gp, cells, a', f', h1, gl, hlen, h3, by omega, h5⟩
    have mm : (0 : Int) < m ∧ m < 1073741824 := hm
    have hne : ∀ {x : Int}, 0 ≤ x % m ∧ x % m < m := fun {x} => ⟨Int.emod_nonneg _ (by omega), Int.emod_lt_of_pos _ hm.1⟩
    have ha1 : a ≤ 100000 := by omega
    obtain ⟨tt0, tail0, tailI0⟩ : ∃ t, PSs (cxOf (L2.CX P w) P w b.K b.mg base ["pen", "many", "digit", "at", "cell", "great", "mixed"] "_law_draw" (defScope st__law_draw) f cdv A outer s H E) ((defBody st__law_draw).drop 7) t ∧ ∀ (D : Ends) σ H2, (∃ (cell mix : Int) (dg gr : Option V), 0 ≤ mix ∧ mix < 2147483629 ∧ σ = [some (.ref p), some (.int m), dg, some (.int a), some (.int cell), gr, some (.int mix)] ∧ ∀ r, 0 ≤ r → r < m → D.rt (.int r) H2) → t D σ H2 := by
      refine ⟨_, (pss_cons (ps_set (i := 6) nd rfl (Or.inl rfl) (pe_op op_mod (pe_callTy call_int1 (by rfl) T.b_int (by decide +kernel) (pa_cons (pe_op op_pow (pe_op op_add (pe_op op_add (pe_op op_mul (pv 6) (pe_op op_add (pe_op op_mul pe_int (pv 3)) pe_int)) (pe_op op_mul (pe_op op_mul pe_int (pv 3)) (pv 3))) pe_int) pe_int) pa_nil)) pe_int)) (pss_one (ps_ret (pe_op op_mod (pe_callTy call_int1 (by rfl) T.b_int (by decide +kernel) (pa_cons (pe_op op_fdiv (pv 6) pe_int) pa_nil)) (pv 1))))), ?_⟩
      rintro D σ H2 ⟨cell, mix, dg, gr, b3, b4, rfl, q⟩
      have n1 : 0 ≤ mix * (2 * a + 41) := Int.mul_nonneg b3 (by omega)
      have n2 : mix * (2 * a + 41) ≤ 2147483629 * 200041 := Int.mul_le_mul (by omega) (by omega) (by omega) (by omega)
      have n3 : 0 ≤ 72503 * a * a := Int.mul_nonneg (by omega) (by omega)
      have n4 : 72503 * a * a ≤ 7250300000 * 100000 := Int.mul_le_mul (by omega) (by omega) (by omega) (by omega)
      refine ⟨_, rfl, _, rfl, _, _, rfl, rfl, .inl ⟨by decide, by decide⟩, _, _, rfl, rfl, _, _, rfl, rfl, .inl ⟨by omega, by omega⟩, ?_⟩
      refine ⟨_, rfl, _, _, rfl, rfl, .inl ⟨by decide, by decide⟩, _, rfl, _, _, rfl, rfl, .inl ⟨by omega, by omega⟩, _, _, rfl, rfl, _, _, rfl, rfl, ?_⟩
      refine ⟨_, _, rfl, rfl, ⟨by decide, by decide, by omega⟩, .inl ⟨_, rfl, _, _, rfl, rfl, (by show (0 : Int) < 2147483563; omega), ?_⟩⟩
      refine ⟨_, rfl, _, _, rfl, rfl, ⟨by decide, by decide⟩, .inl ⟨_, rfl, _, rfl, _, _, rfl, rfl, mm.1, ?_⟩⟩
      exact q _ hne.1 hne.2
    obtain ⟨tt, tail, tailI⟩ : ∃ t, PSs (cxOf (L2.CX P w) P w b.K b.mg base ["pen", "many", "digit", "at", "cell", "great", "mixed"] "_law_draw" (defScope st__law_draw) f cdv A outer s H E) ((defBody st__law_draw).drop 6) t ∧ ∀ D σ H2, (fun D σ H2 => ∃ (cell : Int) (dg gr mx : Option V), σ = [some (.ref p), some (.int m), dg, some (.int a), some (.int cell), gr, mx] ∧ ∀ r, 0 ≤ r → r < m → D.rt (.int r) H2) D σ H2 → t D σ H2 := by
      refine ⟨_, (pss_cons (ps_set (i := 6) nd rfl (Or.inl rfl) (pe_op op_mod (pe_callTy call_int1 (by rfl) T.b_int (by decide +kernel) (pa_cons (pe_op op_pow (pe_op op_add (pe_op op_add (pe_op op_mod (pe_callTy call_int1 (by rfl) T.b_int (by decide +kernel) (pa_cons (pv 4) pa_nil)) pe_int) (pe_op op_mul pe_int (pv 3))) pe_int) pe_int) pa_nil)) pe_int)) tail0), ?_⟩
      rintro D σ H2 ⟨cell, dg, gr, mx, rfl, q⟩
      have b1 : 0 ≤ cell % 2147483587 ∧ cell % 2147483587 < 2147483587 := ⟨Int.emod_nonneg _ (by omega), Int.emod_lt_of_pos _ (by omega)⟩
      refine ⟨_, rfl, .inl ⟨_, rfl, _, _, rfl, rfl, (by show (0 : Int) < 2147483587; omega), _, rfl, _, _, rfl, rfl, .inl ⟨by decide, by decide⟩, _, _, rfl, rfl, _, _, rfl, rfl, _, _, rfl, rfl, ⟨by decide, by decide, by omega⟩, .inl ⟨_, rfl, _, _, rfl, rfl, (by show (0 : Int) < 2147483629; omega), ?_⟩⟩⟩
      have b2 : ∀ x : Int, 0 ≤ x % 2147483629 ∧ x % 2147483629 < 2147483629 := fun x => ⟨Int.emod_nonneg _ (by omega), Int.emod_lt_of_pos _ (by omega)⟩
      exact tailI0 _ _ _ ⟨_, _, _, _, (b2 _).1, (b2 _).2, rfl, q⟩
    refine ⟨_, pss_cons (ps_if (pt_cmpR op_gt (pe_dget hu (pv 0) pe_str (fun _ _ => rfl)) pe_int (nomark _))
        (pss_cons (ps_set (i := 2) nd rfl (Or.inl rfl) (pe_op op_mod (pe_callTy call_int1 (by rfl) T.b_int (by decide +kernel) (pa_cons (pe_dget hu (pv 0) pe_str (fun _ _ => rfl)) pa_nil)) (pv 1)))
        (pss_cons (ps_dput hu (pv 0) pe_str (pe_op op_fdiv (pe_callTy call_int1 (by rfl) T.b_int (by decide +kernel) (pa_cons (pe_dget hu (pv 0) pe_str (fun _ _ => rfl)) pa_nil)) (pv 1)) rfl)
        (pss_one (ps_ret (pv 2))))) pss_nil)
      (pss_cons (ps_set (i := 3) nd rfl (Or.inl rfl) (pe_dget hu (pv 0) pe_str (fun _ _ => rfl)))
      (pss_cons (ps_dput hu (pv 0) pe_str (pe_op op_add (pv 3) pe_int) rfl)
      (pss_cons (ps_set (i := 4) nd rfl (Or.inl rfl) (pe_op op_add (pe_op op_mul pe_int (pv 3)) pe_int))
      (pss_cons (ps_if (pt_cmpR (op_neD (DL.hu64 hr)) (pe_dget hu (pv 0) pe_str (fun _ _ => rfl)) (pe_lst pa_nil) (nomark _))
        (pss_one (ps_set (i := 4) nd rfl (Or.inl rfl) (pe_ix ix_list (pe_dget hu (pv 0) pe_str (fun _ _ => rfl)) (pe_op op_mod (pe_callTy call_int1 (by rfl) T.b_int (by decide +kernel) (pa_cons (pv 3) pa_nil)) (pe_callB call_len_seq (by rfl) T.b_len (by decide +kernel) (pa_cons (pe_dget hu (pv 0) pe_str (fun _ _ => rfl)) pa_nil))) (fun _ _ => rfl)))) pss_nil)
      (pss_cons (ps_if (PW.pt (pw_and (pt_cmpR op_lt (pv 3) (pe_callB call_len_seq (by rfl) T.b_len (by decide +kernel) (pa_cons (pe_dget hu (pv 0) pe_str (fun _ _ => rfl)) pa_nil)) (nomark _))
            (pw_and1 (pt_cmpR op_ge (pe_callB call_abs (by rfl) T.b_abs (by decide +kernel) (pa_cons (pv 4) pa_nil)) (pe_op op_pow pe_int pe_int) (nomark _)))))
        (pss_cons (ps_set (i := 5) nd rfl (Or.inl rfl) (pe_op op_add (pe_op op_mul pe_int (pe_op op_sub (pe_callB call_abs (by rfl) T.b_abs (by decide +kernel) (pa_cons (pv 4) pa_nil)) (pe_op op_pow pe_int pe_int))) (pe_callTy call_int1 (by rfl) T.b_int (by decide +kernel) (pa_cons (pe_cmpR op_lt (pv 4) pe_int (nomark _)) pa_nil))))
        (pss_cons (ps_dput hu (pv 0) pe_str (pe_op op_fdiv (pe_callTy call_int1 (by rfl) T.b_int (by decide +kernel) (pa_cons (pv 5) pa_nil)) (pv 1)) rfl)
        (pss_one (ps_ret (pe_op op_mod (pe_callTy call_int1 (by rfl) T.b_int (by decide +kernel) (pa_cons (pv 5) pa_nil)) (pv 1)))))) pss_nil)
      tail))))), ?_⟩
    refine ⟨_, rfl, p, _, rfl, gL hH, _, _, rfl, rfl, _, rfl, itD (fun c0 => ?_) fun c0 => ?_⟩
    · refine ⟨_, rfl, p, _, rfl, gL hH, .inl ⟨_, rfl, _, rfl, _, _, rfl, rfl, mm.1, _, rfl, p, _, rfl, gL hH, .inl ⟨_, rfl, _, rfl, _, _, rfl, rfl, mm, _, rfl, p, _, rfl, uL _ hH, _, rfl, ?_⟩⟩⟩
      exact out a (left / m) (left % m) _ upd_same (fun c o z y => by rw [upd_ne y]; exact z) ha0 (by omega) (Int.ediv_nonneg hl0 (by omega)) hne.1 hne.2
    · refine ⟨_, rfl, p, _, rfl, gA hH, _, rfl, _, _, rfl, rfl, _, rfl, p, _, rfl, uA _ hH, ?_⟩
      have h1 : (upd H p (.dK (penK l (a + 1) left))) p = some (.dK (penK l (a + 1) left)) := upd_same
      have h1l : (upd H p (.dK (penK l (a + 1) left))) l = some (.lst (cells.map V.int)) := by rw [upd_ne nlp]; exact hlH
      generalize eH1 : upd H p (.dK (penK l (a + 1) left)) = H1 at h1 h1l
      have k1 : ∀ c o, H c = some o → c ≠ p → H1 c = some o := fun c o z y => by rw [← eH1, upd_ne y]; exact z
      refine ⟨_, rfl, _, _, rfl, rfl, .inl ⟨by decide, by decide⟩, _, _, rfl, rfl, ?_⟩
      refine ⟨_, rfl, p, _, rfl, gC h1, (by show 0 ≤ sizeLine; omega), fun l2 hl2 => ⟨_, _, .lst (SqL.of (by rw [upd_ne (ne_of_none h1l hl2)]; exact h1l)) (dpAll_ints cells), .lst (SqL.of upd_same) .nil, PySem.W.ke_shaped_ints cells, by decide, _, rfl, ?_⟩⟩
      have h2 : (upd H1 l2 (.lst [])) p = some (.dK (penK l (a + 1) left)) := by rw [upd_ne (ne_of_none h1 hl2)]; exact h1
      have h2l : (upd H1 l2 (.lst [])) l = some (.lst (cells.map V.int)) := by rw [upd_ne (ne_of_none h1l hl2)]; exact h1l
      have k2 : ∀ c o, H c = some o → c ≠ p → (upd H1 l2 (.lst [])) c = some o := fun c o z y => by rw [upd_ne (ne_of_none (k1 c o z y) hl2)]; exact k1 c o z y
      generalize upd H1 l2 (.lst []) = H2 at h2 h2l k2
      have ha1 : a + 1 ≤ 100000 := by omega
      have out2 : ∀ r, 0 ≤ r → r < m → Q (.int r) H2 := fun r => out (a + 1) left r H2 h2 k2 (by omega) (by omega) hl0
      have out3 : ∀ f r, 0 ≤ f → 0 ≤ r → r < m → Q (.int r) (upd H2 p (.dK (penK l (a + 1) f))) := fun f r z => out (a + 1) f r _ upd_same (fun c o x y => by rw [upd_ne y]; exact k2 c o x y) (by omega) (by omega) z
      have big : ∀ {c : Int}, (if c < 0 then -c else c) ≥ (10 : Int) ^ (18 : Int).toNat → ∀ k : Bool, 0 ≤ 2 * ((if c < 0 then -c else c) - (10 : Int) ^ (18 : Int).toNat) + (if k = true then 1 else 0) := fun {c} h k => by
        have : (0 : Int) ≤ if k = true then 1 else 0 := by split <;> omega
        omega
      cases cells with
      | nil => 
        refine iteF ?_
        refine ⟨_, rfl, _, rfl, p, _, rfl, gC h2, l, _, rfl, .inl (SqL.of h2l), _, _, rfl, rfl, _, rfl, itD (fun c1 => ?_) fun c1 => ?_⟩
        · refine ⟨_, rfl, _, rfl, _, _, rfl, rfl, ⟨by decide, by decide, by decide⟩, _, _, rfl, rfl, _, rfl, itD (fun c2 => ?_) fun c2 => ?_⟩
          · refine ⟨_, rfl, _, rfl, _, _, rfl, rfl, ⟨by decide, by decide, by decide⟩, _, _, rfl, rfl, _, _, rfl, rfl, .inl ⟨by decide, by decide⟩, _, rfl, _, _, rfl, rfl, .inr ⟨_, rfl, _, _, rfl, rfl, ?_⟩⟩
            refine ⟨_, rfl, .inl ⟨_, rfl, _, rfl, _, _, rfl, rfl, mm, _, rfl, p, _, rfl, uL _ h2, _, rfl, .inl ⟨_, rfl, _, rfl, _, _, rfl, rfl, mm.1, ?_⟩⟩⟩
            exact out3 _ _ (Int.ediv_nonneg (big c2 _) (by omega)) hne.1 hne.2
          · exact tailI _ _ _ ⟨_, _, _, _, rfl, out2⟩
        · exact tailI _ _ _ ⟨_, _, _, _, rfl, out2⟩
      | cons c cs =>
        refine iteT ?_
        have hpos : (0 : Int) < ((V.int c :: cs.map V.int).length : Int) := by simp
        obtain ⟨cell, hc⟩ : ∃ cell, atI (List.map V.int (c :: cs)) (a % ((V.int c :: cs.map V.int).length : Int)) = some (.int cell) := by
          have h0 : 0 ≤ a % ((V.int c :: cs.map V.int).length : Int) := Int.emod_nonneg _ (by omega)
          have h9 : a % ((V.int c :: cs.map V.int).length : Int) < ((V.int c :: cs.map V.int).length : Int) := Int.emod_lt_of_pos _ hpos
          obtain ⟨j, ej⟩ := Int.eq_ofNat_of_zero_le h0
          rw [ej] at h9 ⊢
          have hj : j < (c :: cs).length := by simp at h9 ⊢; omega
          exact ⟨(c :: cs)[j], atI_nat (by rw [List.getElem?_map, List.getElem?_eq_getElem hj]; rfl)⟩
        refine ⟨_, rfl, p, _, rfl, gC h2, _, rfl, .inl ⟨_, rfl, _, rfl, p, _, rfl, gC h2, l, _, rfl, .inl (SqL.of h2l), _, _, rfl, rfl, hpos, l, _, _, _, rfl, rfl, SqL.of h2l, hc, ?_⟩⟩
        refine ⟨_, rfl, _, rfl, p, _, rfl, gC h2, l, _, rfl, .inl (SqL.of h2l), _, _, rfl, rfl, _, rfl, itD (fun c1 => ?_) fun c1 => ?_⟩
        · refine ⟨_, rfl, _, rfl, _, _, rfl, rfl, ⟨by decide, by decide, by decide⟩, _, _, rfl, rfl, _, rfl, itD (fun c2 => ?_) fun c2 => ?_⟩
          · refine ⟨_, rfl, _, rfl, _, _, rfl, rfl, ⟨by decide, by decide, by decide⟩, _, _, rfl, rfl, _, _, rfl, rfl, .inl ⟨by decide, by decide⟩, _, rfl, _, _, rfl, rfl, .inr ⟨_, rfl, _, _, rfl, rfl, ?_⟩⟩
            refine ⟨_, rfl, .inl ⟨_, rfl, _, rfl, _, _, rfl, rfl, mm, _, rfl, p, _, rfl, uL _ h2, _, rfl, .inl ⟨_, rfl, _, rfl, _, _, rfl, rfl, mm.1, ?_⟩⟩⟩
            exact out3 _ _ (Int.ediv_nonneg (big c2 _) (by omega)) hne.1 hne.2
          · exact tailI _ _ _ ⟨_, _, _, _, rfl, out2⟩
        · exact tailI _ _ _ ⟨_, _, _, _, rfl, out2⟩
abbrev st__law_pen : Stmt := top 22
theorem sc__law_pen : FnScope ["script"] ["script"] (defScope st__law_pen) := ⟨rfl, rfl, rfl, by decide +kernel, rfl, by decide +kernel, by decide +kernel⟩
theorem ok__law_pen {f : Addr} {fd : FuncData} (F : L2.Fun K "_law_pen" "_law_pen" st__law_pen f fd) (T : Txt K mg) : FnG P w K mg base (L2.CX P w) 1 f fd ["script"] (spPen K) := by
  refine okG F sc__law_pen (fun vs H Q E h => ?_) (fun cdv A outer s H vs Q E hr h => ?_)
  · obtain ⟨a, ns, rfl, _⟩ := h
    rfl
  · obtain ⟨a, ns, rfl, hq, hl, q⟩ := h
    refine ⟨_, pss_one (ps_ret (pe_disp (pps_cons pe_str (pe_callTy call_list_of (by rfl) T.b_list (by decide +kernel) (pa_cons (pe_slice sl_list (pv 0) po_none (po_some pe_int)) pa_nil)) (pps_cons pe_str pe_int (pps_cons pe_str pe_int pps_nil))) (by rfl) (by rfl) (fun z => by cases z) (by decide))), ?_⟩
    intro p hp
    have hq1 : SqL K (upd H p (.dK [])) a (ns.map V.int) := by
      rcases hq with h | h
      · rcases h with h | ⟨o', h⟩
        · exact .inl (.inl (by rw [upd_ne (ne_of_none h hp)]; exact h))
        · exact .inl (.inr ⟨o', by rw [upd_ne (ne_of_none h hp)]; exact h⟩)
      · exact .inr h
    refine ⟨_, rfl, _, rfl, a, _, rfl, hq1, fun t ht => ⟨t, _, rfl, .inl (SqL.of upd_same), fun l hl' => ?_⟩⟩
    have ec : cutV (ns.map V.int) none (some 63) = ((ns.drop (HT.sIx (ns.map V.int).length 0 none)).take (HT.sIx (ns.map V.int).length (ns.map V.int).length (some 63) - HT.sIx (ns.map V.int).length 0 none)).map V.int := by
      unfold cutV
      rw [List.map_take, List.map_drop]
    have npt : p ≠ t := ne_of_none upd_same ht
    have npl : p ≠ l := ne_of_none (by rw [upd_ne npt]; exact upd_same) hl'
    have ntl : t ≠ l := ne_of_none upd_same hl'
    have em : mergeK [] (penK l 0 0) = penK l 0 0 := by
      unfold mergeK penK
      show putK (putK (putK [] (Sum.inr ("cells" : Str) : Key) (V.ref l)) (Sum.inr ("at" : Str)) (.int 0)) (Sum.inr ("left" : Str)) (.int 0) = _
      have e1 : putK ([] : List (Key × V)) (Sum.inr ("cells" : Str)) (V.ref l) = [(Sum.inr ("cells" : Str), V.ref l)] := putK_new _ valV_nil
      have e2 : putK [(Sum.inr ("cells" : Str), V.ref l)] (Sum.inr ("at" : Str) : Key) (.int 0) = [(Sum.inr ("cells" : Str), V.ref l), (Sum.inr ("at" : Str), .int 0)] := putK_new _ ((valV_neg kk1).trans valV_nil)
      have e3 : putK [(Sum.inr ("cells" : Str), V.ref l), (Sum.inr ("at" : Str), .int 0)] (Sum.inr ("left" : Str) : Key) (.int 0) = [(Sum.inr ("cells" : Str), V.ref l), (Sum.inr ("at" : Str), .int 0), (Sum.inr ("left" : Str), .int 0)] := putK_new _ ((valV_neg kk2).trans ((valV_neg kk3).trans valV_nil))
      rw [e1, e2, e3]
    refine ⟨by rw [upd_ne npl, upd_ne npt]; exact upd_same, penK l 0 0, rfl, (by show 3 ≤ 15; omega), ?_⟩
    rw [em]
    refine q p l _ _ ?_ hp ?_ npl.symm upd_same (by rw [upd_ne npl.symm, upd_same, ec]) ?_
    · rw [List.length_take, List.length_drop]
      omega
    · cases e : H l with
      | none => rfl
      | some o => 
        rw [upd_ne ntl.symm, upd_ne npl.symm] at hl'
        rw [hl'] at e
        cases e
    · intro b o e
      have h1 : b ≠ p := ne_of_none e hp
      have h2 : (upd H p (.dK [])) b = some o := by rw [upd_ne h1]; exact e
      have h3 : b ≠ t := ne_of_none h2 ht
      have h4 : b ≠ l := ne_of_none (show (upd (upd H p (.dK [])) t (.lst (cutV (ns.map V.int) none (some 63)))) b = some o by rw [upd_ne h3]; exact h2) hl'
      rw [upd_ne h1, upd_ne h4, upd_ne h3]
      exact h2

abbrev st__law_holds : Stmt := top 27
theorem sc__law_holds : FnScope ["words", "text", "word"] ["words", "text"] (defScope st__law_holds) := ⟨rfl, rfl, rfl, by decide +kernel, rfl, by decide +kernel, by decide +kernel⟩
def B__law_holds : SS :=
  (retS (opE neD (lcE [2] (seqI (varE 0)) (nameG 2) (boolT (opE inD (varE 2) (varE 1))) (varE 2)) (lstE nilL)))
def F__law_holds : DL.Fn := runS 3 B__law_holds
theorem ok__law_holds {f : Addr} {fd : FuncData} (F : L2.Fun K "_law_holds" "_law_holds" st__law_holds f fd) (T : Txt K mg)  : FnG P w K mg base (L2.CX P w) 1 f fd ["words", "text"] (spD K mg 2 F__law_holds) := by
  refine fnD (N := ["words", "text", "word"]) (B := B__law_holds) F sc__law_holds fun cdv A outer s H E b hr hK hM => ?_
  have hx : Passes (L2.CX P w) (cxOf (L2.CX P w) P w K mg base ["words", "text", "word"] "_law_holds" (defScope st__law_holds) f cdv A outer s H E) E := passT (takes_of rfl rfl rfl rfl)
  have hp : PassesOwn (model P w) (A.deeper (PyProof.Rows.envOfC "_law_holds" (defScope st__law_holds) s.heap.objs.size f cdv)) (PyProof.Rows.envOfC "_law_holds" (defScope st__law_holds) s.heap.objs.size f cdv) (cxOf (L2.CX P w) P w K mg base ["words", "text", "word"] "_law_holds" (defScope st__law_holds) f cdv A outer s H E).xe := passes_of (X := cxOf (L2.CX P w) P w K mg base ["words", "text", "word"] "_law_holds" (defScope st__law_holds) f cdv A outer s H E) rfl
  exact (dss_one (by exact (ds_ret (by exact (de_ne hK.symm (hu64 hr) (by exact (de_lc (own := [("word", 2)]) (ix := [2]) rfl sc__law_holds.nd (di_seq hK.symm (de_var (pv 0))) (blkOk_by (by kernel_rfl)) (by decide) (fun s1 H1 _ _ fp1 => (dg_name (pg_name (i := 2) sc__law_holds.nd rfl (by first | exact Or.inl rfl | exact Or.inr rfl)))) (fun s1 H1 _ _ fp1 => by exact (dts_one (by exact (dt_in hK.symm (hu1 hr) (de_var (pv 2)) (de_var (pv 1)))))) (fun s1 H1 _ _ fp1 => by exact (de_var (pv 2))))) (by exact (de_lst da_nil)))))))
abbrev st_is_text : Stmt := top 13
theorem sc_is_text : FnScope ["value", "signs", "sign"] ["value", "signs"] (defScope st_is_text) := ⟨rfl, rfl, rfl, by decide +kernel, rfl, by decide +kernel, by decide +kernel⟩
def B_is_text : SS :=
  (retS (andE (un1 (isiF ti_str) (varE 0)) (cbE allF (consL (lcE [2] (strI (varE 0)) (nameG 2) yesT (opE inD (varE 2) (varE 1))) nilL))))
def F_is_text : DL.Fn := runS 3 B_is_text
theorem ok_is_text {f : Addr} {fd : FuncData} (F : L2.Fun K "is_text" "is_text" st_is_text f fd) (T : Txt K mg)  : FnG P w K mg base (L2.CX P w) 1 f fd ["value", "signs"] (spD K mg 2 F_is_text) := by
  refine fnD (N := ["value", "signs", "sign"]) (B := B_is_text) F sc_is_text fun cdv A outer s H E b hr hK hM => ?_
  have hx : Passes (L2.CX P w) (cxOf (L2.CX P w) P w K mg base ["value", "signs", "sign"] "is_text" (defScope st_is_text) f cdv A outer s H E) E := passT (takes_of rfl rfl rfl rfl)
  have hp : PassesOwn (model P w) (A.deeper (PyProof.Rows.envOfC "is_text" (defScope st_is_text) s.heap.objs.size f cdv)) (PyProof.Rows.envOfC "is_text" (defScope st_is_text) s.heap.objs.size f cdv) (cxOf (L2.CX P w) P w K mg base ["value", "signs", "sign"] "is_text" (defScope st_is_text) f cdv A outer s H E).xe := passes_of (X := cxOf (L2.CX P w) P w K mg base ["value", "signs", "sign"] "is_text" (defScope st_is_text) f cdv A outer s H E) rfl
  exact (dss_one (by exact (ds_ret (by exact (de_and (by exact (de_isi hK.symm (by rw [hK, hM]; exact T.i_str) (ClsV.ty "str") (de_var (pv 0)) (pe_bltn rfl T.b_str (by decide +kernel) rfl) rfl T.b_isinstance)) (de_one (by exact (de_blt (cr_all rfl) (cb_all hK.symm) (by rfl) T.b_all (by decide +kernel) (da_cons (by exact (de_lc (own := [("sign", 2)]) (ix := [2]) rfl sc_is_text.nd (di_str (de_var (pv 0))) (blkOk_by (by kernel_rfl)) (by decide) (fun s1 H1 _ _ fp1 => (dg_name (pg_name (i := 2) sc_is_text.nd rfl (by first | exact Or.inl rfl | exact Or.inr rfl)))) (fun s1 H1 _ _ fp1 => by exact dts_nil) (fun s1 H1 _ _ fp1 => by exact (by exact (de_in hK.symm (hu1 hr) (de_var (pv 2)) (de_var (pv 1))))))) da_nil)))))))))
abbrev st_least_words : Stmt := top 18
theorem sc_least_words : FnScope ["words", "known", "word", "found", "other"] ["words"] (defScope st_least_words) := ⟨rfl, rfl, rfl, by decide +kernel, rfl, by decide +kernel, by decide +kernel⟩
def B_least_words : SS :=
  (seqS (asgO 1 dctE0)
  (seqS (forS (seqI (varE 0)) (nameG 2) (putS 1 (varE 2) (conE (.bl true))))
  (frzS 1 (seqS (asgS (nameG 3) (cbE srtF (consL (lcE [2] (keysI (varE 1)) (nameG 2) yesT (cbE strF (consL (varE 2) nilL))) nilL)))
  (retS (lcE [2] (seqI (varE 3)) (nameG 2) (notT (boolT (cbE anyF (consL (lcE [4] (seqI (varE 3)) (nameG 4) (boolT (opE neD (varE 4) (varE 2))) (opE inD (varE 4) (varE 2))) nilL)))) (varE 2)))))))
def F_least_words : DL.Fn := runS 5 B_least_words
theorem ok_least_words {f : Addr} {fd : FuncData} (F : L2.Fun K "least_words" "least_words" st_least_words f fd) (T : Txt K mg)  : FnG P w K mg base (L2.CX P w) 1 f fd ["words"] (spD K mg 1 F_least_words) := by
  refine fnD (N := ["words", "known", "word", "found", "other"]) (B := B_least_words) F sc_least_words fun cdv A outer s H E b hr hK hM => ?_
  have hx : Passes (L2.CX P w) (cxOf (L2.CX P w) P w K mg base ["words", "known", "word", "found", "other"] "least_words" (defScope st_least_words) f cdv A outer s H E) E := passT (takes_of rfl rfl rfl rfl)
  have hp : PassesOwn (model P w) (A.deeper (PyProof.Rows.envOfC "least_words" (defScope st_least_words) s.heap.objs.size f cdv)) (PyProof.Rows.envOfC "least_words" (defScope st_least_words) s.heap.objs.size f cdv) (cxOf (L2.CX P w) P w K mg base ["words", "known", "word", "found", "other"] "least_words" (defScope st_least_words) f cdv A outer s H E).xe := passes_of (X := cxOf (L2.CX P w) P w K mg base ["words", "known", "word", "found", "other"] "least_words" (defScope st_least_words) f cdv A outer s H E) rfl
  exact (dss_cons (by exact (ds_setO (i := 1) sc_least_words.nd rfl (by first | exact Or.inl rfl | exact Or.inr rfl) df_dict0)) (by exact
  (dss_cons (by exact (ds_for hp rfl (di_seq hK.symm (de_var (pv 0))) (dg_name (pg_name (i := 2) sc_least_words.nd rfl (by first | exact Or.inl rfl | exact Or.inr rfl))) (dss_one (by exact (ds_dput (hu1 hr) (pv 1) (de_var (pv 2)) (de_con pe_bl)))))) (by exact
  (dss_frz (i := 1) (dss_cons (by exact (ds_set (i := 3) sc_least_words.nd rfl (by first | exact Or.inl rfl | exact Or.inr rfl) (by exact (de_blt cr_sortedS (cb_sorted hK.symm) (by rfl) T.b_sorted (by decide +kernel) (da_cons (by exact (de_lc (own := [("word", 2)]) (ix := [2]) rfl sc_least_words.nd (di_keys (de_var (pv 1))) (blkOk_by (by kernel_rfl)) (by decide) (fun s1 H1 _ _ fp1 => (dg_name (pg_name (i := 2) sc_least_words.nd rfl (by first | exact Or.inl rfl | exact Or.inr rfl)))) (fun s1 H1 _ _ fp1 => by exact dts_nil) (fun s1 H1 _ _ fp1 => by exact (by exact (de_bty SkE.call_str_str cb_str (by rfl) T.b_str (by decide +kernel) (da_cons (de_var (pv 2)) da_nil)))))) da_nil))))) (by exact
  (dss_one (by exact (ds_ret (by exact (de_lc (own := [("word", 2)]) (ix := [2]) rfl sc_least_words.nd (di_seq hK.symm (de_var (pv 3))) (blkOk_by (by kernel_rfl)) (by decide) (fun s1 H1 _ _ fp1 => (dg_name (pg_name (i := 2) sc_least_words.nd rfl (by first | exact Or.inl rfl | exact Or.inr rfl)))) (fun s1 H1 _ _ fp1 => by exact (dts_one (by exact (dt_not (by exact (dt_val (by exact (de_blt (cr_any rfl) (cb_any hK.symm) (by rfl) T.b_any (by decide +kernel) (da_cons (by exact (de_lc (own := [("other", 4)]) (ix := [4]) rfl sc_least_words.nd (di_seq hK.symm (de_var (pv 3))) (blkOk_by (by kernel_rfl)) (by decide) (fun s2 H2 _ _ fp2 => (dg_name (pg_name (i := 4) sc_least_words.nd rfl (by first | exact Or.inl rfl | exact Or.inr rfl)))) (fun s2 H2 _ _ fp2 => by exact (dts_one (by exact (dt_ne hK.symm (hu64 hr) (de_var (pv 4)) (de_var (pv 2)))))) (fun s2 H2 _ _ fp2 => by exact (by exact (de_in hK.symm (hu1 hr) (de_var (pv 4)) (de_var (pv 2))))))) da_nil))))))))) (fun s1 H1 _ _ fp1 => by exact (de_var (pv 2)))))))))))))))
abbrev st_ends_of : Stmt := top 19
theorem sc_ends_of : FnScope ["words", "found", "word", "size", "end", "other"] ["words"] (defScope st_ends_of) := ⟨rfl, rfl, rfl, by decide +kernel, rfl, by decide +kernel, by decide +kernel⟩
def B_ends_of : SS :=
  (seqS (asgO 1 (dctE (((conE (.str "")), (conE (.bl true))) :: [])))
  (seqS (forS (seqI (varE 0)) (nameG 2) (forS (rng2I (consL (conE (.int 1)) (consL (cbE lenF (consL (varE 2) nilL)) nilL))) (nameG 3) (ifS (notT (boolT (cbE anyF (consL (lcE [5] (seqI (varE 0)) (nameG 5) yesT (opE inD (varE 5) (slE (varE 2) noO (someO (varE 3))))) nilL)))) (putS 1 (slE (varE 2) noO (someO (varE 3))) (conE (.bl true))) skipS)))
  (frzS 1 (retS (cbE srtF (consL (lcE [4] (keysI (varE 1)) (nameG 4) yesT (cbE strF (consL (varE 4) nilL))) nilL))))))
def F_ends_of : DL.Fn := runS 6 B_ends_of
theorem ok_ends_of {f : Addr} {fd : FuncData} (F : L2.Fun K "ends_of" "ends_of" st_ends_of f fd) (T : Txt K mg)  : FnG P w K mg base (L2.CX P w) 1 f fd ["words"] (spD K mg 1 F_ends_of) := by
  refine fnD (N := ["words", "found", "word", "size", "end", "other"]) (B := B_ends_of) F sc_ends_of fun cdv A outer s H E b hr hK hM => ?_
  have hx : Passes (L2.CX P w) (cxOf (L2.CX P w) P w K mg base ["words", "found", "word", "size", "end", "other"] "ends_of" (defScope st_ends_of) f cdv A outer s H E) E := passT (takes_of rfl rfl rfl rfl)
  have hp : PassesOwn (model P w) (A.deeper (PyProof.Rows.envOfC "ends_of" (defScope st_ends_of) s.heap.objs.size f cdv)) (PyProof.Rows.envOfC "ends_of" (defScope st_ends_of) s.heap.objs.size f cdv) (cxOf (L2.CX P w) P w K mg base ["words", "found", "word", "size", "end", "other"] "ends_of" (defScope st_ends_of) f cdv A outer s H E).xe := passes_of (X := cxOf (L2.CX P w) P w K mg base ["words", "found", "word", "size", "end", "other"] "ends_of" (defScope st_ends_of) f cdv A outer s H E) rfl
  exact (dss_cons (by exact (ds_setO (i := 1) sc_ends_of.nd rfl (by first | exact Or.inl rfl | exact Or.inr rfl) (df_dict (dps_cons (de_con pe_str) (de_con pe_bl) dps_nil)))) (by exact
  (dss_cons (by exact (ds_for hp rfl (di_seq hK.symm (de_var (pv 0))) (dg_name (pg_name (i := 2) sc_ends_of.nd rfl (by first | exact Or.inl rfl | exact Or.inr rfl))) (dss_one (by exact (ds_for hp rfl (di_range2 (by rfl) T.b_range (da_cons (de_con pe_int) (da_cons (by exact (de_blt cr_len (cb_len hK.symm) (by rfl) T.b_len (by decide +kernel) (da_cons (de_var (pv 2)) da_nil))) da_nil))) (dg_name (pg_name (i := 3) sc_ends_of.nd rfl (by first | exact Or.inl rfl | exact Or.inr rfl))) (dss_one (by exact (ds_if (by exact (dt_not (by exact (dt_val (by exact (de_blt (cr_any rfl) (cb_any hK.symm) (by rfl) T.b_any (by decide +kernel) (da_cons (by exact (de_lc (own := [("other", 5)]) (ix := [5]) rfl sc_ends_of.nd (di_seq hK.symm (de_var (pv 0))) (blkOk_by (by kernel_rfl)) (by decide) (fun s1 H1 _ _ fp1 => (dg_name (pg_name (i := 5) sc_ends_of.nd rfl (by first | exact Or.inl rfl | exact Or.inr rfl)))) (fun s1 H1 _ _ fp1 => by exact dts_nil) (fun s1 H1 _ _ fp1 => by exact (by exact (de_in hK.symm (hu1 hr) (de_var (pv 5)) (by exact (de_slice hK.symm (de_var (pv 2)) do_none (do_some (de_var (pv 3)))))))))) da_nil))))))) (dss_one (by exact (ds_dput (hu1 hr) (pv 1) (by exact (de_slice hK.symm (de_var (pv 2)) do_none (do_some (de_var (pv 3))))) (de_con pe_bl)))) dss_nil)))))))) (by exact
  (dss_frz (i := 1) (dss_one (by exact (ds_ret (by exact (de_blt cr_sortedS (cb_sorted hK.symm) (by rfl) T.b_sorted (by decide +kernel) (da_cons (by exact (de_lc (own := [("end", 4)]) (ix := [4]) rfl sc_ends_of.nd (di_keys (de_var (pv 1))) (blkOk_by (by kernel_rfl)) (by decide) (fun s1 H1 _ _ fp1 => (dg_name (pg_name (i := 4) sc_ends_of.nd rfl (by first | exact Or.inl rfl | exact Or.inr rfl)))) (fun s1 H1 _ _ fp1 => by exact dts_nil) (fun s1 H1 _ _ fp1 => by exact (by exact (de_bty SkE.call_str_str cb_str (by rfl) T.b_str (by decide +kernel) (da_cons (de_var (pv 4)) da_nil)))))) da_nil)))))))))))
abbrev st_is_signs : Stmt := top 11
theorem sc_is_signs : FnScope ["value", "places", "sign", "at"] ["value"] (defScope st_is_signs) := ⟨rfl, rfl, rfl, by decide +kernel, rfl, by decide +kernel, by decide +kernel⟩
def B_is_signs : SS :=
  (seqS (ifS (orT (notT (boolT (un1 (isiF ti_str) (varE 0)))) (notT (boolT (chainE leD leD (conE (.int 2)) (cbE lenF (consL (varE 0) nilL)) (conE (.int 4)))))) (retS (conE (.bl false))) skipS)
  (seqS (asgS (nameG 1) (lcE [2] (strI (varE 0)) (nameG 2) yesT (mtE findF (conE (.str "0123456789abcdefghijklmnopqrstuvwxyz")) (varE 2))))
  (retS (andE (opE geD (opE ixD (varE 1) (conE (.int 0))) (conE (.int 0))) (cbE allF (consL (lcE [3] (rng1I (consL (opE subI (cbE lenF (consL (varE 1) nilL)) (conE (.int 1))) nilL)) (nameG 3) yesT (opE ltD (opE ixD (varE 1) (varE 3)) (opE ixD (varE 1) (opE addD (varE 3) (conE (.int 1)))))) nilL))))))
def F_is_signs : DL.Fn := runS 4 B_is_signs
theorem ok_is_signs {f : Addr} {fd : FuncData} (F : L2.Fun K "is_signs" "is_signs" st_is_signs f fd) (T : Txt K mg)  : FnG P w K mg base (L2.CX P w) 1 f fd ["value"] (spD K mg 1 F_is_signs) := by
  refine fnD (N := ["value", "places", "sign", "at"]) (B := B_is_signs) F sc_is_signs fun cdv A outer s H E b hr hK hM => ?_
  have hx : Passes (L2.CX P w) (cxOf (L2.CX P w) P w K mg base ["value", "places", "sign", "at"] "is_signs" (defScope st_is_signs) f cdv A outer s H E) E := passT (takes_of rfl rfl rfl rfl)
  have hp : PassesOwn (model P w) (A.deeper (PyProof.Rows.envOfC "is_signs" (defScope st_is_signs) s.heap.objs.size f cdv)) (PyProof.Rows.envOfC "is_signs" (defScope st_is_signs) s.heap.objs.size f cdv) (cxOf (L2.CX P w) P w K mg base ["value", "places", "sign", "at"] "is_signs" (defScope st_is_signs) f cdv A outer s H E).xe := passes_of (X := cxOf (L2.CX P w) P w K mg base ["value", "places", "sign", "at"] "is_signs" (defScope st_is_signs) f cdv A outer s H E) rfl
  exact (dss_cons (by exact (ds_if (by exact (PW.pt (dw_or (by exact (dt_not (by exact (dt_val (by exact (de_isi hK.symm (by rw [hK, hM]; exact T.i_str) (ClsV.ty "str") (de_var (pv 0)) (pe_bltn rfl T.b_str (by decide +kernel) rfl) rfl T.b_isinstance)))))) (dw_or1 (by exact (dt_not (by exact (dt_chain op_le od_cmpI op_le od_cmpI (de_con pe_int) (by exact (de_blt cr_len (cb_len hK.symm) (by rfl) T.b_len (by decide +kernel) (da_cons (de_var (pv 0)) da_nil))) (de_gc (v := .int 4) rfl T.c_MOST_SIGNS))))))))) (dss_one (by exact (ds_ret (de_con pe_bl)))) dss_nil)) (by exact
  (dss_cons (by exact (ds_set (i := 1) sc_is_signs.nd rfl (by first | exact Or.inl rfl | exact Or.inr rfl) (de_lc (own := [("sign", 2)]) (ix := [2]) rfl sc_is_signs.nd (di_str (de_var (pv 0))) (blkOk_by (by kernel_rfl)) (by decide) (fun s1 H1 _ _ fp1 => (dg_name (pg_name (i := 2) sc_is_signs.nd rfl (by first | exact Or.inl rfl | exact Or.inr rfl)))) (fun s1 H1 _ _ fp1 => by exact dts_nil) (fun s1 H1 _ _ fp1 => by exact (by exact (de_m1 PySem.F.slot_str_find PySem.F.type_str_find mt_find md_find (de_gc (v := .str "0123456789abcdefghijklmnopqrstuvwxyz") rfl T.c_SIGNS) (de_var (pv 2)))))))) (by exact
  (dss_one (by exact (ds_ret (by exact (de_and (by exact (de_ge (by exact (de_ix hK.symm (hu1 hr) (de_var (pv 1)) (de_con pe_int))) (de_con pe_int))) (de_one (by exact (de_blt (cr_all rfl) (cb_all hK.symm) (by rfl) T.b_all (by decide +kernel) (da_cons (by exact (de_lc (own := [("at", 3)]) (ix := [3]) rfl sc_is_signs.nd (di_range1 (by rfl) T.b_range (da_cons (by exact (de_sub (by exact (de_blt cr_len (cb_len hK.symm) (by rfl) T.b_len (by decide +kernel) (da_cons (de_var (pv 1)) da_nil))) (de_con pe_int))) da_nil)) (blkOk_by (by kernel_rfl)) (by decide) (fun s1 H1 _ _ fp1 => (dg_name (pg_name (i := 3) sc_is_signs.nd rfl (by first | exact Or.inl rfl | exact Or.inr rfl)))) (fun s1 H1 _ _ fp1 => by exact dts_nil) (fun s1 H1 _ _ fp1 => by exact (by exact (de_lt (by exact (de_ix hK.symm (hu1 hr) (de_var (pv 1)) (de_var (pv 3)))) (by exact (de_ix hK.symm (hu1 hr) (de_var (pv 1)) (by exact (de_add (de_var (pv 3)) (de_con pe_int)))))))))) da_nil)))))))))))))
abbrev st_need_signs : Stmt := top 12
theorem sc_need_signs : FnScope ["value"] ["value"] (defScope st_need_signs) := ⟨rfl, rfl, rfl, by decide +kernel, rfl, by decide +kernel, by decide +kernel⟩
def B_need_signs : SS :=
  (ifS (notT (boolT (callE 1 F_is_signs (consL (varE 0) nilL)))) (fun _ => .fail) skipS)
def F_need_signs : DL.Fn := runS 1 B_need_signs
theorem ok_need_signs {f : Addr} {fd : FuncData} (F : L2.Fun K "need_signs" "need_signs" st_need_signs f fd) (T : Txt K mg) (c_is_signs : DL.Cal P w K mg base 1 "is_signs" ["value"] F_is_signs) : FnG P w K mg base (L2.CX P w) 2 f fd ["value"] (spD K mg 1 F_need_signs) := by
  refine fnD (N := ["value"]) (B := B_need_signs) F sc_need_signs fun cdv A outer s H E b hr hK hM => ?_
  have hx : Passes (L2.CX P w) (cxOf (L2.CX P w) P w K mg base ["value"] "need_signs" (defScope st_need_signs) f cdv A outer s H E) E := passT (takes_of rfl rfl rfl rfl)
  have hp : PassesOwn (model P w) (A.deeper (PyProof.Rows.envOfC "need_signs" (defScope st_need_signs) s.heap.objs.size f cdv)) (PyProof.Rows.envOfC "need_signs" (defScope st_need_signs) s.heap.objs.size f cdv) (cxOf (L2.CX P w) P w K mg base ["value"] "need_signs" (defScope st_need_signs) f cdv A outer s H E).xe := passes_of (X := cxOf (L2.CX P w) P w K mg base ["value"] "need_signs" (defScope st_need_signs) f cdv A outer s H E) rfl
  exact (dss_one (by exact (ds_if (by exact (dt_not (by exact (dt_val (by exact (de_c c_is_signs hK.symm hM.symm hx hr (by decide) (by rfl) (da_cons (de_var (pv 0)) da_nil))))))) (dss_one (by exact ds_never)) dss_nil)))
abbrev st_Bars_holds : Stmt := inClass (top 20) 2
theorem sc_Bars_holds : FnScope ["self", "text", "word"] ["self", "text"] (defScope st_Bars_holds) := ⟨rfl, rfl, rfl, by decide +kernel, rfl, by decide +kernel, by decide +kernel⟩
def B_Bars_holds : SS :=
  (retS (cbE anyF (consL (lcE [2] (seqI (un1 (fldF fc_words "words") (varE 0))) (nameG 2) yesT (opE inD (varE 2) (varE 1))) nilL)))
def F_Bars_holds : DL.Fn := runS 3 B_Bars_holds
theorem ok_Bars_holds {f : Addr} {fd : FuncData} (F : L2.Fun K "holds" "Bars.holds" st_Bars_holds f fd) (T : Txt K mg)  : FnG P w K mg base (L2.CX P w) 1 f fd ["self", "text"] (spD K mg 2 F_Bars_holds) := by
  refine fnD (N := ["self", "text", "word"]) (B := B_Bars_holds) F sc_Bars_holds fun cdv A outer s H E b hr hK hM => ?_
  have hx : Passes (L2.CX P w) (cxOf (L2.CX P w) P w K mg base ["self", "text", "word"] "Bars.holds" (defScope st_Bars_holds) f cdv A outer s H E) E := passT (takes_of rfl rfl rfl rfl)
  have hp : PassesOwn (model P w) (A.deeper (PyProof.Rows.envOfC "Bars.holds" (defScope st_Bars_holds) s.heap.objs.size f cdv)) (PyProof.Rows.envOfC "Bars.holds" (defScope st_Bars_holds) s.heap.objs.size f cdv) (cxOf (L2.CX P w) P w K mg base ["self", "text", "word"] "Bars.holds" (defScope st_Bars_holds) f cdv A outer s H E).xe := passes_of (X := cxOf (L2.CX P w) P w K mg base ["self", "text", "word"] "Bars.holds" (defScope st_Bars_holds) f cdv A outer s H E) rfl
  exact (dss_one (by exact (ds_ret (by exact (de_blt (cr_any rfl) (cb_any hK.symm) (by rfl) T.b_any (by decide +kernel) (da_cons (by exact (de_lc (own := [("word", 2)]) (ix := [2]) rfl sc_Bars_holds.nd (di_seq hK.symm (by exact (de_fld hK.symm (by rw [hK, hM]; exact T.f_words) (de_var (pv 0))))) (blkOk_by (by kernel_rfl)) (by decide) (fun s1 H1 _ _ fp1 => (dg_name (pg_name (i := 2) sc_Bars_holds.nd rfl (by first | exact Or.inl rfl | exact Or.inr rfl)))) (fun s1 H1 _ _ fp1 => by exact dts_nil) (fun s1 H1 _ _ fp1 => by exact (by exact (de_in hK.symm (hu1 hr) (de_var (pv 2)) (de_var (pv 1))))))) da_nil))))))
abbrev st_Bars_last_of : Stmt := inClass (top 20) 3
theorem sc_Bars_last_of : FnScope ["self", "text", "at"] ["self", "text"] (defScope st_Bars_last_of) := ⟨rfl, rfl, rfl, by decide +kernel, rfl, by decide +kernel, by decide +kernel⟩
def B_Bars_last_of : SS :=
  (seqS (forS (rng1I (consL (cbE lenF (consL (varE 1) nilL)) nilL)) (nameG 2) (ifS (boolT (opE inD (slE (varE 1) (someO (varE 2)) noO) (un1 (fldF fc_ends "ends") (varE 0)))) (retS (slE (varE 1) (someO (varE 2)) noO)) skipS))
  (retS (conE (.str ""))))
def F_Bars_last_of : DL.Fn := runS 3 B_Bars_last_of
theorem ok_Bars_last_of {f : Addr} {fd : FuncData} (F : L2.Fun K "last_of" "Bars.last_of" st_Bars_last_of f fd) (T : Txt K mg)  : FnG P w K mg base (L2.CX P w) 1 f fd ["self", "text"] (spD K mg 2 F_Bars_last_of) := by
  refine fnD (N := ["self", "text", "at"]) (B := B_Bars_last_of) F sc_Bars_last_of fun cdv A outer s H E b hr hK hM => ?_
  have hx : Passes (L2.CX P w) (cxOf (L2.CX P w) P w K mg base ["self", "text", "at"] "Bars.last_of" (defScope st_Bars_last_of) f cdv A outer s H E) E := passT (takes_of rfl rfl rfl rfl)
  have hp : PassesOwn (model P w) (A.deeper (PyProof.Rows.envOfC "Bars.last_of" (defScope st_Bars_last_of) s.heap.objs.size f cdv)) (PyProof.Rows.envOfC "Bars.last_of" (defScope st_Bars_last_of) s.heap.objs.size f cdv) (cxOf (L2.CX P w) P w K mg base ["self", "text", "at"] "Bars.last_of" (defScope st_Bars_last_of) f cdv A outer s H E).xe := passes_of (X := cxOf (L2.CX P w) P w K mg base ["self", "text", "at"] "Bars.last_of" (defScope st_Bars_last_of) f cdv A outer s H E) rfl
  exact (dss_cons (by exact (ds_for hp rfl (di_range1 (by rfl) T.b_range (da_cons (by exact (de_blt cr_len (cb_len hK.symm) (by rfl) T.b_len (by decide +kernel) (da_cons (de_var (pv 1)) da_nil))) da_nil)) (dg_name (pg_name (i := 2) sc_Bars_last_of.nd rfl (by first | exact Or.inl rfl | exact Or.inr rfl))) (dss_one (by exact (ds_if (by exact (dt_in hK.symm (hu1 hr) (by exact (de_slice hK.symm (de_var (pv 1)) (do_some (de_var (pv 2))) do_none)) (by exact (de_fld hK.symm (by rw [hK, hM]; exact T.f_ends) (de_var (pv 0)))))) (dss_one (by exact (ds_ret (by exact (de_slice hK.symm (de_var (pv 1)) (do_some (de_var (pv 2))) do_none))))) dss_nil))))) (by exact
  (dss_one (by exact (ds_ret (de_con pe_str))))))
abbrev st_Bars_end_of : Stmt := inClass (top 20) 4
theorem sc_Bars_end_of : FnScope ["self", "text"] ["self", "text"] (defScope st_Bars_end_of) := ⟨rfl, rfl, rfl, by decide +kernel, rfl, by decide +kernel, by decide +kernel⟩
def B_Bars_end_of : SS :=
  (seqS (ifS (orT (notT (boolT (callE 2 F_is_text (consL (varE 1) (consL (un1 (fldF fc_signs "signs") (varE 0)) nilL))))) (boolT (methE "Bars" "holds" 2 F_Bars_holds (varE 0) (consL (varE 1) nilL)))) (fun _ => .fail) skipS)
  (retS (methE "Bars" "last_of" 2 F_Bars_last_of (varE 0) (consL (varE 1) nilL))))
def F_Bars_end_of : DL.Fn := runS 2 B_Bars_end_of
theorem ok_Bars_end_of {f : Addr} {fd : FuncData} (F : L2.Fun K "end_of" "Bars.end_of" st_Bars_end_of f fd) (T : Txt K mg) (c_is_text : DL.Cal P w K mg base 1 "is_text" ["value", "signs"] F_is_text) (c_Bars_holds : DL.Met P w K mg base 1 "Bars" "holds" ["self", "text"] F_Bars_holds) (c_Bars_last_of : DL.Met P w K mg base 1 "Bars" "last_of" ["self", "text"] F_Bars_last_of) : FnG P w K mg base (L2.CX P w) 2 f fd ["self", "text"] (spD K mg 2 F_Bars_end_of) := by
  refine fnD (N := ["self", "text"]) (B := B_Bars_end_of) F sc_Bars_end_of fun cdv A outer s H E b hr hK hM => ?_
  have hx : Passes (L2.CX P w) (cxOf (L2.CX P w) P w K mg base ["self", "text"] "Bars.end_of" (defScope st_Bars_end_of) f cdv A outer s H E) E := passT (takes_of rfl rfl rfl rfl)
  have hp : PassesOwn (model P w) (A.deeper (PyProof.Rows.envOfC "Bars.end_of" (defScope st_Bars_end_of) s.heap.objs.size f cdv)) (PyProof.Rows.envOfC "Bars.end_of" (defScope st_Bars_end_of) s.heap.objs.size f cdv) (cxOf (L2.CX P w) P w K mg base ["self", "text"] "Bars.end_of" (defScope st_Bars_end_of) f cdv A outer s H E).xe := passes_of (X := cxOf (L2.CX P w) P w K mg base ["self", "text"] "Bars.end_of" (defScope st_Bars_end_of) f cdv A outer s H E) rfl
  exact (dss_cons (by exact (ds_if (by exact (PW.pt (dw_or (by exact (dt_not (by exact (dt_val (by exact (de_c c_is_text hK.symm hM.symm hx hr (by decide) (by rfl) (da_cons (de_var (pv 1)) (da_cons (by exact (de_fld hK.symm (by rw [hK, hM]; exact T.f_signs) (de_var (pv 0)))) da_nil)))))))) (dw_or1 (by exact (dt_val (by exact (de_mt c_Bars_holds hK.symm hM.symm hx hr (by decide) (de_var (pv 0)) (da_cons (de_var (pv 1)) da_nil))))))))) (dss_one (by exact ds_never)) dss_nil)) (by exact
  (dss_one (by exact (ds_ret (by exact (de_mt c_Bars_last_of hK.symm hM.symm hx hr (by decide) (de_var (pv 0)) (da_cons (de_var (pv 1)) da_nil))))))))
abbrev st_Bars_behind : Stmt := inClass (top 20) 5
theorem sc_Bars_behind : FnScope ["self", "end", "text"] ["self", "end", "text"] (defScope st_Bars_behind) := ⟨rfl, rfl, rfl, by decide +kernel, rfl, by decide +kernel, by decide +kernel⟩
def B_Bars_behind : SS :=
  (seqS (ifS (orT (notT (boolT (un1 (isiF ti_str) (varE 1)))) (boolT (opE ninD (varE 1) (un1 (fldF fc_ends "ends") (varE 0))))) (fun _ => .fail) skipS)
  (seqS (ifS (notT (boolT (callE 2 F_is_text (consL (varE 2) (consL (un1 (fldF fc_signs "signs") (varE 0)) nilL))))) (fun _ => .fail) skipS)
  (retS (ifE (boolT (methE "Bars" "holds" 2 F_Bars_holds (varE 0) (consL (opE addD (varE 1) (varE 2)) nilL))) (conE .non) (methE "Bars" "last_of" 2 F_Bars_last_of (varE 0) (consL (opE addD (varE 1) (varE 2)) nilL))))))
def F_Bars_behind : DL.Fn := runS 3 B_Bars_behind
theorem ok_Bars_behind {f : Addr} {fd : FuncData} (F : L2.Fun K "behind" "Bars.behind" st_Bars_behind f fd) (T : Txt K mg) (c_is_text : DL.Cal P w K mg base 1 "is_text" ["value", "signs"] F_is_text) (c_Bars_holds : DL.Met P w K mg base 1 "Bars" "holds" ["self", "text"] F_Bars_holds) (c_Bars_last_of : DL.Met P w K mg base 1 "Bars" "last_of" ["self", "text"] F_Bars_last_of) : FnG P w K mg base (L2.CX P w) 2 f fd ["self", "end", "text"] (spD K mg 3 F_Bars_behind) := by
  refine fnD (N := ["self", "end", "text"]) (B := B_Bars_behind) F sc_Bars_behind fun cdv A outer s H E b hr hK hM => ?_
  have hx : Passes (L2.CX P w) (cxOf (L2.CX P w) P w K mg base ["self", "end", "text"] "Bars.behind" (defScope st_Bars_behind) f cdv A outer s H E) E := passT (takes_of rfl rfl rfl rfl)
  have hp : PassesOwn (model P w) (A.deeper (PyProof.Rows.envOfC "Bars.behind" (defScope st_Bars_behind) s.heap.objs.size f cdv)) (PyProof.Rows.envOfC "Bars.behind" (defScope st_Bars_behind) s.heap.objs.size f cdv) (cxOf (L2.CX P w) P w K mg base ["self", "end", "text"] "Bars.behind" (defScope st_Bars_behind) f cdv A outer s H E).xe := passes_of (X := cxOf (L2.CX P w) P w K mg base ["self", "end", "text"] "Bars.behind" (defScope st_Bars_behind) f cdv A outer s H E) rfl
  exact (dss_cons (by exact (ds_if (by exact (PW.pt (dw_or (by exact (dt_not (by exact (dt_val (by exact (de_isi hK.symm (by rw [hK, hM]; exact T.i_str) (ClsV.ty "str") (de_var (pv 1)) (pe_bltn rfl T.b_str (by decide +kernel) rfl) rfl T.b_isinstance)))))) (dw_or1 (by exact (dt_nin hK.symm (hu1 hr) (de_var (pv 1)) (by exact (de_fld hK.symm (by rw [hK, hM]; exact T.f_ends) (de_var (pv 0)))))))))) (dss_one (by exact ds_never)) dss_nil)) (by exact
  (dss_cons (by exact (ds_if (by exact (dt_not (by exact (dt_val (by exact (de_c c_is_text hK.symm hM.symm hx hr (by decide) (by rfl) (da_cons (de_var (pv 2)) (da_cons (by exact (de_fld hK.symm (by rw [hK, hM]; exact T.f_signs) (de_var (pv 0)))) da_nil)))))))) (dss_one (by exact ds_never)) dss_nil)) (by exact
  (dss_one (by exact (ds_ret (by exact (de_if (by exact (dt_val (by exact (de_mt c_Bars_holds hK.symm hM.symm hx hr (by decide) (de_var (pv 0)) (da_cons (by exact (de_add (de_var (pv 1)) (de_var (pv 2)))) da_nil))))) (de_con pe_non) (by exact (de_mt c_Bars_last_of hK.symm hM.symm hx hr (by decide) (de_var (pv 0)) (da_cons (by exact (de_add (de_var (pv 1)) (de_var (pv 2)))) da_nil))))))))))))
abbrev st_Bars_contains : Stmt := inClass (top 20) 6
theorem sc_Bars_contains : FnScope ["self", "text"] ["self", "text"] (defScope st_Bars_contains) := ⟨rfl, rfl, rfl, by decide +kernel, rfl, by decide +kernel, by decide +kernel⟩
def B_Bars_contains : SS :=
  (retS (andE (callE 2 F_is_text (consL (varE 1) (consL (un1 (fldF fc_signs "signs") (varE 0)) nilL))) (methE "Bars" "holds" 2 F_Bars_holds (varE 0) (consL (varE 1) nilL))))
def F_Bars_contains : DL.Fn := runS 2 B_Bars_contains
theorem ok_Bars_contains {f : Addr} {fd : FuncData} (F : L2.Fun K "__contains__" "Bars.__contains__" st_Bars_contains f fd) (T : Txt K mg) (c_is_text : DL.Cal P w K mg base 1 "is_text" ["value", "signs"] F_is_text) (c_Bars_holds : DL.Met P w K mg base 1 "Bars" "holds" ["self", "text"] F_Bars_holds) : FnG P w K mg base (L2.CX P w) 2 f fd ["self", "text"] (spD K mg 2 F_Bars_contains) := by
  refine fnD (N := ["self", "text"]) (B := B_Bars_contains) F sc_Bars_contains fun cdv A outer s H E b hr hK hM => ?_
  have hx : Passes (L2.CX P w) (cxOf (L2.CX P w) P w K mg base ["self", "text"] "Bars.__contains__" (defScope st_Bars_contains) f cdv A outer s H E) E := passT (takes_of rfl rfl rfl rfl)
  have hp : PassesOwn (model P w) (A.deeper (PyProof.Rows.envOfC "Bars.__contains__" (defScope st_Bars_contains) s.heap.objs.size f cdv)) (PyProof.Rows.envOfC "Bars.__contains__" (defScope st_Bars_contains) s.heap.objs.size f cdv) (cxOf (L2.CX P w) P w K mg base ["self", "text"] "Bars.__contains__" (defScope st_Bars_contains) f cdv A outer s H E).xe := passes_of (X := cxOf (L2.CX P w) P w K mg base ["self", "text"] "Bars.__contains__" (defScope st_Bars_contains) f cdv A outer s H E) rfl
  exact (dss_one (by exact (ds_ret (by exact (de_and (by exact (de_c c_is_text hK.symm hM.symm hx hr (by decide) (by rfl) (da_cons (de_var (pv 1)) (da_cons (by exact (de_fld hK.symm (by rw [hK, hM]; exact T.f_signs) (de_var (pv 0)))) da_nil)))) (de_one (by exact (de_mt c_Bars_holds hK.symm hM.symm hx hr (by decide) (de_var (pv 0)) (da_cons (de_var (pv 1)) da_nil)))))))))
abbrev st_Bars_len : Stmt := inClass (top 20) 7
theorem sc_Bars_len : FnScope ["self"] ["self"] (defScope st_Bars_len) := ⟨rfl, rfl, rfl, by decide +kernel, rfl, by decide +kernel, by decide +kernel⟩
def B_Bars_len : SS :=
  (retS (cbE lenF (consL (un1 (fldF fc_words "words") (varE 0)) nilL)))
def F_Bars_len : DL.Fn := runS 1 B_Bars_len
theorem ok_Bars_len {f : Addr} {fd : FuncData} (F : L2.Fun K "__len__" "Bars.__len__" st_Bars_len f fd) (T : Txt K mg)  : FnG P w K mg base (L2.CX P w) 1 f fd ["self"] (spD K mg 1 F_Bars_len) := by
  refine fnD (N := ["self"]) (B := B_Bars_len) F sc_Bars_len fun cdv A outer s H E b hr hK hM => ?_
  have hx : Passes (L2.CX P w) (cxOf (L2.CX P w) P w K mg base ["self"] "Bars.__len__" (defScope st_Bars_len) f cdv A outer s H E) E := passT (takes_of rfl rfl rfl rfl)
  have hp : PassesOwn (model P w) (A.deeper (PyProof.Rows.envOfC "Bars.__len__" (defScope st_Bars_len) s.heap.objs.size f cdv)) (PyProof.Rows.envOfC "Bars.__len__" (defScope st_Bars_len) s.heap.objs.size f cdv) (cxOf (L2.CX P w) P w K mg base ["self"] "Bars.__len__" (defScope st_Bars_len) f cdv A outer s H E).xe := passes_of (X := cxOf (L2.CX P w) P w K mg base ["self"] "Bars.__len__" (defScope st_Bars_len) f cdv A outer s H E) rfl
  exact (dss_one (by exact (ds_ret (by exact (de_blt cr_len (cb_len hK.symm) (by rfl) T.b_len (by decide +kernel) (da_cons (by exact (de_fld hK.symm (by rw [hK, hM]; exact T.f_words) (de_var (pv 0)))) da_nil))))))
abbrev st_Bars_iter : Stmt := inClass (top 20) 8
theorem sc_Bars_iter : FnScope ["self"] ["self"] (defScope st_Bars_iter) := ⟨rfl, rfl, rfl, by decide +kernel, rfl, by decide +kernel, by decide +kernel⟩
theorem ok_Bars_iter {f C : Addr} {fd : FuncData} (F : L2.Fun K "__iter__" "Bars.__iter__" st_Bars_iter f fd) (T : Txt K mg) (hC : mg "Bars" = some (.ref C)) : FnS P w K mg base (L2.CX P w) 1 f fd ["self"] (spIter K C "words") := by
  refine fnS_of F sc_Bars_iter fun cdv A outer s H vs Q E hr h => ?_
  obtain ⟨a, dx, fs, t, ys, rfl, ha, hl, ht, q⟩ := h
  obtain ⟨hc, hn⟩ := T.f_words "Bars" (by decide +kernel) C hC
  exact ⟨_, pss_one (ps_ret (pe_callB call_iterT (by rfl) T.b_iter (by decide +kernel) (pa_cons (pe_fld (pv 0) rfl) pa_nil))), _, rfl, a, C, dx, fs, _, rfl, ha, hc, hn, hl, t, ys, rfl, ht, q⟩
abbrev st_Bars_eq : Stmt := inClass (top 20) 9
theorem sc_Bars_eq : FnScope ["self", "other"] ["self", "other"] (defScope st_Bars_eq) := ⟨rfl, rfl, rfl, by decide +kernel, rfl, by decide +kernel, by decide +kernel⟩
def B_Bars_eq : SS :=
  (retS (andE (un1 (isiF ti_Bars) (varE 1)) (andE (opE eqD (un1 (fldF fc_signs "signs") (varE 0)) (un1 (fldF fc_signs "signs") (varE 1))) (opE eqD (un1 (fldF fc_words "words") (varE 0)) (un1 (fldF fc_words "words") (varE 1))))))
def F_Bars_eq : DL.Fn := runS 2 B_Bars_eq
theorem ok_Bars_eq {f : Addr} {fd : FuncData} (F : L2.Fun K "__eq__" "Bars.__eq__" st_Bars_eq f fd) (T : Txt K mg)  : FnG P w K mg base (L2.CX P w) 1 f fd ["self", "other"] (spD K mg 2 F_Bars_eq) := by
  refine fnD (N := ["self", "other"]) (B := B_Bars_eq) F sc_Bars_eq fun cdv A outer s H E b hr hK hM => ?_
  obtain ⟨C_Bars, hC_Bars⟩ := T.g_Bars
  have hx : Passes (L2.CX P w) (cxOf (L2.CX P w) P w K mg base ["self", "other"] "Bars.__eq__" (defScope st_Bars_eq) f cdv A outer s H E) E := passT (takes_of rfl rfl rfl rfl)
  have hp : PassesOwn (model P w) (A.deeper (PyProof.Rows.envOfC "Bars.__eq__" (defScope st_Bars_eq) s.heap.objs.size f cdv)) (PyProof.Rows.envOfC "Bars.__eq__" (defScope st_Bars_eq) s.heap.objs.size f cdv) (cxOf (L2.CX P w) P w K mg base ["self", "other"] "Bars.__eq__" (defScope st_Bars_eq) f cdv A outer s H E).xe := passes_of (X := cxOf (L2.CX P w) P w K mg base ["self", "other"] "Bars.__eq__" (defScope st_Bars_eq) f cdv A outer s H E) rfl
  exact (dss_one (by exact (ds_ret (by exact (de_and (by exact (de_isi hK.symm (by rw [hK, hM]; exact T.i_Bars _ hC_Bars) (ClsV.own C_Bars) (de_var (pv 1)) (pe_glob rfl hC_Bars rfl) rfl T.b_isinstance)) (de_and (by exact (de_eq hK.symm (hu64 hr) (by exact (de_fld hK.symm (by rw [hK, hM]; exact T.f_signs) (de_var (pv 0)))) (by exact (de_fld hK.symm (by rw [hK, hM]; exact T.f_signs) (de_var (pv 1)))))) (de_one (by exact (de_eq hK.symm (hu64 hr) (by exact (de_fld hK.symm (by rw [hK, hM]; exact T.f_words) (de_var (pv 0)))) (by exact (de_fld hK.symm (by rw [hK, hM]; exact T.f_words) (de_var (pv 1)))))))))))))
abbrev st_Bars_init : Stmt := inClass (top 20) 0
theorem sc_Bars_init : FnScope ["self", "signs", "words", "word", "least", "ends"] ["self", "signs", "words"] (defScope st_Bars_init) := ⟨rfl, rfl, rfl, by decide +kernel, rfl, by decide +kernel, by decide +kernel⟩
def B_Bars_init : SS :=
  (seqS (exprS (callE 1 F_need_signs (consL (varE 1) nilL)))
  (seqS (forS (seqI (varE 2)) (nameG 3) (ifS (orT (notT (boolT (callE 2 F_is_text (consL (varE 3) (consL (varE 1) nilL))))) (notT (boolT (chainE leD leD (conE (.int 1)) (cbE lenF (consL (varE 3) nilL)) (conE (.int 6)))))) (fun _ => .fail) skipS))
  (seqS (asgS (nameG 4) (callE 1 F_least_words (consL (varE 2) nilL)))
  (seqS (ifS (boolT (opE gtD (cbE lenF (consL (varE 4) nilL)) (conE (.int 6)))) (fun _ => .fail) skipS)
  (seqS (asgS (nameG 5) (callE 1 F_ends_of (consL (varE 4) nilL)))
  (seqS (ifS (boolT (opE gtD (cbE lenF (consL (varE 5) nilL)) (conE (.int 16)))) (fun _ => .fail) skipS)
  (seqS (fldS 0 fc_signs "signs" (varE 1))
  (seqS (fldS 0 fc_words "words" (cbE tupF (consL (varE 4) nilL)))
  (fldS 0 fc_ends "ends" (cbE tupF (consL (varE 5) nilL)))))))))))
def F_Bars_init : DL.Fn := runI "Bars" 6 B_Bars_init
theorem bs_Bars_init (kV doc pm : Value) (an : Option Addr) (cdv ct : Value) (us rest : List Value) (hl : us.length = ["self", "signs"].length) : bindArgs (PySem.W.fnOf "__init__" "Bars.__init__" (defArgs st_Bars_init) (defBody st_Bars_init) (defScope st_Bars_init) .none kV doc pm an cdv ct) ⟨us ++ rest, []⟩ = (newTuple rest >>= fun t => pure ((["self", "signs"] : List Str).zip us ++ [(("words" : Str), t)]) : Sem (List (Str × Value))) := StX.bind_star2 (B := fun xs => bindArgs (PySem.W.fnOf "__init__" "Bars.__init__" (defArgs st_Bars_init) (defBody st_Bars_init) (defScope st_Bars_init) .none kV doc pm an cdv ct) ⟨xs, []⟩) (fun a0 a1 => by kernel_rfl) (fun a0 a1 r rs => by kernel_rfl) us rest hl
theorem ok_Bars_init {f : Addr} {fd : FuncData} (F : L2.Fun K "__init__" "Bars.__init__" st_Bars_init f fd) (T : Txt K mg) (c_need_signs : DL.Cal P w K mg base 2 "need_signs" ["value"] F_need_signs) (c_is_text : DL.Cal P w K mg base 1 "is_text" ["value", "signs"] F_is_text) (c_least_words : DL.Cal P w K mg base 1 "least_words" ["words"] F_least_words) (c_ends_of : DL.Cal P w K mg base 1 "ends_of" ["words"] F_ends_of) : FnRG P w K mg base (L2.CX P w) 3 f (spIS K mg "Bars" 1 F_Bars_init) := by
  refine fnIS (N := ["self", "signs", "words", "word", "least", "ends"]) (c := "Bars") (p0 := "self") (ps := ["signs"]) (pv := "words") (B := B_Bars_init) F sc_Bars_init bs_Bars_init fun cdv A outer s H E b hr hK hM => ?_
  have hx : Passes (L2.CX P w) (cxOf (L2.CX P w) P w K mg base ["self", "signs", "words", "word", "least", "ends"] "Bars.__init__" (defScope st_Bars_init) f cdv A outer s H E) E := passT (takes_of rfl rfl rfl rfl)
  have hp : PassesOwn (model P w) (A.deeper (PyProof.Rows.envOfC "Bars.__init__" (defScope st_Bars_init) s.heap.objs.size f cdv)) (PyProof.Rows.envOfC "Bars.__init__" (defScope st_Bars_init) s.heap.objs.size f cdv) (cxOf (L2.CX P w) P w K mg base ["self", "signs", "words", "word", "least", "ends"] "Bars.__init__" (defScope st_Bars_init) f cdv A outer s H E).xe := passes_of (X := cxOf (L2.CX P w) P w K mg base ["self", "signs", "words", "word", "least", "ends"] "Bars.__init__" (defScope st_Bars_init) f cdv A outer s H E) rfl
  exact (dss_cons (by exact (ds_expr (by exact (de_c c_need_signs hK.symm hM.symm hx hr (by decide) (by rfl) (da_cons (de_var (pv 1)) da_nil))))) (by exact
  (dss_cons (by exact (ds_for hp rfl (di_seq hK.symm (de_var (pv 2))) (dg_name (pg_name (i := 3) sc_Bars_init.nd rfl (by first | exact Or.inl rfl | exact Or.inr rfl))) (dss_one (by exact (ds_if (by exact (PW.pt (dw_or (by exact (dt_not (by exact (dt_val (by exact (de_c c_is_text hK.symm hM.symm hx hr (by decide) (by rfl) (da_cons (de_var (pv 3)) (da_cons (de_var (pv 1)) da_nil)))))))) (dw_or1 (by exact (dt_not (by exact (dt_chain op_le od_cmpI op_le od_cmpI (de_con pe_int) (by exact (de_blt cr_len (cb_len hK.symm) (by rfl) T.b_len (by decide +kernel) (da_cons (de_var (pv 3)) da_nil))) (de_gc (v := .int 6) rfl T.c_MOST_LETTERS))))))))) (dss_one (by exact ds_never)) dss_nil))))) (by exact
  (dss_cons (by exact (ds_set (i := 4) sc_Bars_init.nd rfl (by first | exact Or.inl rfl | exact Or.inr rfl) (by exact (de_c c_least_words hK.symm hM.symm hx hr (by decide) (by rfl) (da_cons (de_var (pv 2)) da_nil))))) (by exact
  (dss_cons (by exact (ds_if (by exact (dt_gt (by exact (de_blt cr_len (cb_len hK.symm) (by rfl) T.b_len (by decide +kernel) (da_cons (de_var (pv 4)) da_nil))) (de_gc (v := .int 6) rfl T.c_MOST_WORDS))) (dss_one (by exact ds_never)) dss_nil)) (by exact
  (dss_cons (by exact (ds_set (i := 5) sc_Bars_init.nd rfl (by first | exact Or.inl rfl | exact Or.inr rfl) (by exact (de_c c_ends_of hK.symm hM.symm hx hr (by decide) (by rfl) (da_cons (de_var (pv 4)) da_nil))))) (by exact
  (dss_cons (by exact (ds_if (by exact (dt_gt (by exact (de_blt cr_len (cb_len hK.symm) (by rfl) T.b_len (by decide +kernel) (da_cons (de_var (pv 5)) da_nil))) (de_gc (v := .int 16) rfl T.c_MOST_ENDS))) (dss_one (by exact ds_never)) dss_nil)) (by exact
  (dss_cons (by exact (ds_fld (i := 0) hK.symm (by rw [hK, hM]; exact T.f_signs) (pv 0) (de_var (pv 1)))) (by exact
  (dss_cons (by exact (ds_fld (i := 0) hK.symm (by rw [hK, hM]; exact T.f_words) (pv 0) (by exact (de_bty call_tuple_of (cb_tup hK.symm) (by rfl) T.b_tuple (by decide +kernel) (da_cons (de_var (pv 4)) da_nil))))) (by exact
  (dss_one (by exact (ds_fld (i := 0) hK.symm (by rw [hK, hM]; exact T.f_ends) (pv 0) (by exact (de_bty call_tuple_of (cb_tup hK.symm) (by rfl) T.b_tuple (by decide +kernel) (da_cons (de_var (pv 5)) da_nil))))))))))))))))))))))
abbrev st_Bars_of : Stmt := inClass (top 20) 1
theorem sc_Bars_of : FnScope ["signs", "words"] ["signs", "words"] (defScope st_Bars_of) := ⟨rfl, rfl, rfl, by decide +kernel, rfl, by decide +kernel, by decide +kernel⟩
def B_Bars_of : SS :=
  (seqS (exprS (callE 1 F_need_signs (consL (varE 0) nilL)))
  (seqS (ifS (notT (boolT (un1 (isiF (tab2 ti_list ti_tuple)) (varE 1)))) (fun _ => .fail) skipS)
  (retS (callSE 1 F_Bars_init (consL (varE 0) (starL (varE 1) nilL))))))
def F_Bars_of : DL.Fn := runS 2 B_Bars_of
theorem ok_Bars_of {f : Addr} {fd : FuncData} (F : L2.Fun K "of" "Bars.of" st_Bars_of f fd) (T : Txt K mg) (c_need_signs : DL.Cal P w K mg base 2 "need_signs" ["value"] F_need_signs) (c_Bars_init : DL.MakS P w K mg base 3 "Bars" 1 F_Bars_init) : FnG P w K mg base (L2.CX P w) 5 f fd ["signs", "words"] (spD K mg 2 F_Bars_of) := by
  refine fnD (N := ["signs", "words"]) (B := B_Bars_of) F sc_Bars_of fun cdv A outer s H E b hr hK hM => ?_
  have hx : Passes (L2.CX P w) (cxOf (L2.CX P w) P w K mg base ["signs", "words"] "Bars.of" (defScope st_Bars_of) f cdv A outer s H E) E := passT (takes_of rfl rfl rfl rfl)
  have hp : PassesOwn (model P w) (A.deeper (PyProof.Rows.envOfC "Bars.of" (defScope st_Bars_of) s.heap.objs.size f cdv)) (PyProof.Rows.envOfC "Bars.of" (defScope st_Bars_of) s.heap.objs.size f cdv) (cxOf (L2.CX P w) P w K mg base ["signs", "words"] "Bars.of" (defScope st_Bars_of) f cdv A outer s H E).xe := passes_of (X := cxOf (L2.CX P w) P w K mg base ["signs", "words"] "Bars.of" (defScope st_Bars_of) f cdv A outer s H E) rfl
  exact (dss_cons (by exact (ds_expr (by exact (de_c c_need_signs hK.symm hM.symm hx hr (by decide) (by rfl) (da_cons (de_var (pv 0)) da_nil))))) (by exact
  (dss_cons (by exact (ds_if (by exact (dt_not (by exact (dt_val (by exact (de_isi2 hK.symm (by rw [hK, hM]; exact T.i_list) (by rw [hK, hM]; exact T.i_tuple) (ClsV.ty "list") (ClsV.ty "tuple") (de_var (pv 1)) (pe_bltn rfl T.b_list (by decide +kernel) rfl) (pe_bltn rfl T.b_tuple (by decide +kernel) rfl) rfl T.b_isinstance)))))) (dss_one (by exact ds_never)) dss_nil)) (by exact
  (dss_one (by exact (ds_ret (by exact (de_makeS2 c_Bars_init hK.symm hM.symm hx hr (by decide) (by rfl) (da_cons (de_var (pv 0)) (da_star hK.symm (de_var (pv 1)) da_nil)))))))))))
abbrev st__law_least_words : Stmt := top 26
theorem sc__law_least_words : FnScope ["words", "some", "k", "word", "other"] ["words"] (defScope st__law_least_words) := ⟨rfl, rfl, rfl, by decide +kernel, rfl, by decide +kernel, by decide +kernel⟩
def B__law_least_words : SS :=
  (seqS (asgS (nameG 1) (cbE srtF (consL (lcE [3] (seqI (varE 0)) (nameG 3) yesT (cbE strF (consL (varE 3) nilL))) nilL)))
  (seqS (asgS (nameG 1) (lcE [2] (rng1I (consL (cbE lenF (consL (varE 1) nilL)) nilL)) (nameG 2) (boolT (opE ninD (opE ixD (varE 1) (varE 2)) (slE (varE 1) noO (someO (varE 2))))) (opE ixD (varE 1) (varE 2))))
  (retS (lcE [3] (seqI (varE 1)) (nameG 3) (boolT (opE eqD (lcE [4] (seqI (varE 1)) (nameG 4) (andT (boolT (opE neD (varE 4) (varE 3))) (boolT (opE inD (varE 4) (varE 3)))) (varE 4)) (lstE nilL))) (varE 3)))))
def F__law_least_words : DL.Fn := runS 5 B__law_least_words
theorem ok__law_least_words {f : Addr} {fd : FuncData} (F : L2.Fun K "_law_least_words" "_law_least_words" st__law_least_words f fd) (T : Txt K mg)  : FnG P w K mg base (L2.CX P w) 1 f fd ["words"] (spD K mg 1 F__law_least_words) := by
  refine fnD (N := ["words", "some", "k", "word", "other"]) (B := B__law_least_words) F sc__law_least_words fun cdv A outer s H E b hr hK hM => ?_
  have hx : Passes (L2.CX P w) (cxOf (L2.CX P w) P w K mg base ["words", "some", "k", "word", "other"] "_law_least_words" (defScope st__law_least_words) f cdv A outer s H E) E := passT (takes_of rfl rfl rfl rfl)
  have hp : PassesOwn (model P w) (A.deeper (PyProof.Rows.envOfC "_law_least_words" (defScope st__law_least_words) s.heap.objs.size f cdv)) (PyProof.Rows.envOfC "_law_least_words" (defScope st__law_least_words) s.heap.objs.size f cdv) (cxOf (L2.CX P w) P w K mg base ["words", "some", "k", "word", "other"] "_law_least_words" (defScope st__law_least_words) f cdv A outer s H E).xe := passes_of (X := cxOf (L2.CX P w) P w K mg base ["words", "some", "k", "word", "other"] "_law_least_words" (defScope st__law_least_words) f cdv A outer s H E) rfl
  exact (dss_cons (by exact (ds_set (i := 1) sc__law_least_words.nd rfl (by first | exact Or.inl rfl | exact Or.inr rfl) (by exact (de_blt cr_sortedS (cb_sorted hK.symm) (by rfl) T.b_sorted (by decide +kernel) (da_cons (by exact (de_lc (own := [("word", 3)]) (ix := [3]) rfl sc__law_least_words.nd (di_seq hK.symm (de_var (pv 0))) (blkOk_by (by kernel_rfl)) (by decide) (fun s1 H1 _ _ fp1 => (dg_name (pg_name (i := 3) sc__law_least_words.nd rfl (by first | exact Or.inl rfl | exact Or.inr rfl)))) (fun s1 H1 _ _ fp1 => by exact dts_nil) (fun s1 H1 _ _ fp1 => by exact (by exact (de_bty SkE.call_str_str cb_str (by rfl) T.b_str (by decide +kernel) (da_cons (de_var (pv 3)) da_nil)))))) da_nil))))) (by exact
  (dss_cons (by exact (ds_set (i := 1) sc__law_least_words.nd rfl (by first | exact Or.inl rfl | exact Or.inr rfl) (de_lc (own := [("k", 2)]) (ix := [2]) rfl sc__law_least_words.nd (di_range1 (by rfl) T.b_range (da_cons (by exact (de_blt cr_len (cb_len hK.symm) (by rfl) T.b_len (by decide +kernel) (da_cons (de_var (pv 1)) da_nil))) da_nil)) (blkOk_by (by kernel_rfl)) (by decide) (fun s1 H1 _ _ fp1 => (dg_name (pg_name (i := 2) sc__law_least_words.nd rfl (by first | exact Or.inl rfl | exact Or.inr rfl)))) (fun s1 H1 _ _ fp1 => by exact (dts_one (by exact (dt_nin hK.symm (hu1 hr) (by exact (de_ix hK.symm (hu1 hr) (de_var (pv 1)) (de_var (pv 2)))) (by exact (de_slice hK.symm (de_var (pv 1)) do_none (do_some (de_var (pv 2))))))))) (fun s1 H1 _ _ fp1 => by exact (by exact (de_ix hK.symm (hu1 hr) (de_var (pv 1)) (de_var (pv 2)))))))) (by exact
  (dss_one (by exact (ds_ret (by exact (de_lc (own := [("word", 3)]) (ix := [3]) rfl sc__law_least_words.nd (di_seq hK.symm (de_var (pv 1))) (blkOk_by (by kernel_rfl)) (by decide) (fun s1 H1 _ _ fp1 => (dg_name (pg_name (i := 3) sc__law_least_words.nd rfl (by first | exact Or.inl rfl | exact Or.inr rfl)))) (fun s1 H1 _ _ fp1 => by exact (dts_one (by exact (dt_eq hK.symm (hu64 hr) (by exact (de_lc (own := [("other", 4)]) (ix := [4]) rfl sc__law_least_words.nd (di_seq hK.symm (de_var (pv 1))) (blkOk_by (by kernel_rfl)) (by decide) (fun s2 H2 _ _ fp2 => (dg_name (pg_name (i := 4) sc__law_least_words.nd rfl (by first | exact Or.inl rfl | exact Or.inr rfl)))) (fun s2 H2 _ _ fp2 => by exact (dts_one (by exact (PW.pt (dw_and (by exact (dt_ne hK.symm (hu64 hr) (de_var (pv 4)) (de_var (pv 3)))) (dw_and1 (by exact (dt_in hK.symm (hu1 hr) (de_var (pv 4)) (de_var (pv 3)))))))))) (fun s2 H2 _ _ fp2 => by exact (de_var (pv 4))))) (by exact (de_lst da_nil)))))) (fun s1 H1 _ _ fp1 => by exact (de_var (pv 3))))))))))))
abbrev st__law_ends : Stmt := top 28
theorem sc__law_ends : FnScope ["words", "found", "word", "size", "end"] ["words"] (defScope st__law_ends) := ⟨rfl, rfl, rfl, by decide +kernel, rfl, by decide +kernel, by decide +kernel⟩
def B__law_ends : SS :=
  (seqS (asgO 1 (lstE (consL (conE (.str "")) nilL)))
  (seqS (forS (seqI (varE 0)) (nameG 2) (forS (rng2I (consL (conE (.int 1)) (consL (cbE lenF (consL (varE 2) nilL)) nilL))) (nameG 3) (ifS (brwT 1 (andT (boolT (opE ninD (slE (varE 2) noO (someO (varE 3))) (varE 1))) (notT (boolT (callE 2 F__law_holds (consL (varE 0) (consL (slE (varE 2) noO (someO (varE 3))) nilL))))))) (appS 1 (slE (varE 2) noO (someO (varE 3)))) skipS)))
  (frzS 1 (retS (cbE srtF (consL (lcE [4] (seqI (varE 1)) (nameG 4) yesT (cbE strF (consL (varE 4) nilL))) nilL))))))
def F__law_ends : DL.Fn := runS 5 B__law_ends
theorem ok__law_ends {f : Addr} {fd : FuncData} (F : L2.Fun K "_law_ends" "_law_ends" st__law_ends f fd) (T : Txt K mg) (c__law_holds : DL.Cal P w K mg base 1 "_law_holds" ["words", "text"] F__law_holds) : FnG P w K mg base (L2.CX P w) 2 f fd ["words"] (spD K mg 1 F__law_ends) := by
  refine fnD (N := ["words", "found", "word", "size", "end"]) (B := B__law_ends) F sc__law_ends fun cdv A outer s H E b hr hK hM => ?_
  have hx : Passes (L2.CX P w) (cxOf (L2.CX P w) P w K mg base ["words", "found", "word", "size", "end"] "_law_ends" (defScope st__law_ends) f cdv A outer s H E) E := passT (takes_of rfl rfl rfl rfl)
  have hp : PassesOwn (model P w) (A.deeper (PyProof.Rows.envOfC "_law_ends" (defScope st__law_ends) s.heap.objs.size f cdv)) (PyProof.Rows.envOfC "_law_ends" (defScope st__law_ends) s.heap.objs.size f cdv) (cxOf (L2.CX P w) P w K mg base ["words", "found", "word", "size", "end"] "_law_ends" (defScope st__law_ends) f cdv A outer s H E).xe := passes_of (X := cxOf (L2.CX P w) P w K mg base ["words", "found", "word", "size", "end"] "_law_ends" (defScope st__law_ends) f cdv A outer s H E) rfl
  exact (dss_cons (by exact (ds_setO (i := 1) sc__law_ends.nd rfl (by first | exact Or.inl rfl | exact Or.inr rfl) (df_lst (da_cons (de_con pe_str) da_nil)))) (by exact
  (dss_cons (by exact (ds_for hp rfl (di_seq hK.symm (de_var (pv 0))) (dg_name (pg_name (i := 2) sc__law_ends.nd rfl (by first | exact Or.inl rfl | exact Or.inr rfl))) (dss_one (by exact (ds_for hp rfl (di_range2 (by rfl) T.b_range (da_cons (de_con pe_int) (da_cons (by exact (de_blt cr_len (cb_len hK.symm) (by rfl) T.b_len (by decide +kernel) (da_cons (de_var (pv 2)) da_nil))) da_nil))) (dg_name (pg_name (i := 3) sc__law_ends.nd rfl (by first | exact Or.inl rfl | exact Or.inr rfl))) (dss_one (by exact (ds_if (by exact (dt_brw (i := 1) (PW.pt (dw_and (by exact (dt_nin hK.symm (hu1 hr) (by exact (de_slice hK.symm (de_var (pv 2)) do_none (do_some (de_var (pv 3))))) (de_var (pv 1)))) (dw_and1 (by exact (dt_not (by exact (dt_val (by exact (de_c c__law_holds hK.symm hM.symm hx hr (by decide) (by rfl) (da_cons (de_var (pv 0)) (da_cons (by exact (de_slice hK.symm (de_var (pv 2)) do_none (do_some (de_var (pv 3))))) da_nil))))))))))))) (dss_one (by exact (ds_append (pv 1) (by exact (de_slice hK.symm (de_var (pv 2)) do_none (do_some (de_var (pv 3)))))))) dss_nil)))))))) (by exact
  (dss_frz (i := 1) (dss_one (by exact (ds_ret (by exact (de_blt cr_sortedS (cb_sorted hK.symm) (by rfl) T.b_sorted (by decide +kernel) (da_cons (by exact (de_lc (own := [("end", 4)]) (ix := [4]) rfl sc__law_ends.nd (di_seq hK.symm (de_var (pv 1))) (blkOk_by (by kernel_rfl)) (by decide) (fun s1 H1 _ _ fp1 => (dg_name (pg_name (i := 4) sc__law_ends.nd rfl (by first | exact Or.inl rfl | exact Or.inr rfl)))) (fun s1 H1 _ _ fp1 => by exact dts_nil) (fun s1 H1 _ _ fp1 => by exact (by exact (de_bty SkE.call_str_str cb_str (by rfl) T.b_str (by decide +kernel) (da_cons (de_var (pv 4)) da_nil)))))) da_nil)))))))))))
abbrev st__law_end : Stmt := top 29
theorem sc__law_end : FnScope ["words", "text", "ends", "at"] ["words", "text"] (defScope st__law_end) := ⟨rfl, rfl, rfl, by decide +kernel, rfl, by decide +kernel, by decide +kernel⟩
def B__law_end : SS :=
  (seqS (asgS (nameG 2) (callE 1 F__law_ends (consL (varE 0) nilL)))
  (retS (opE ixD (lcE [3] (rng1I (consL (opE addD (cbE lenF (consL (varE 1) nilL)) (conE (.int 1))) nilL)) (nameG 3) (boolT (opE inD (slE (varE 1) (someO (varE 3)) noO) (varE 2))) (slE (varE 1) (someO (varE 3)) noO)) (conE (.int 0)))))
def F__law_end : DL.Fn := runS 4 B__law_end
theorem ok__law_end {f : Addr} {fd : FuncData} (F : L2.Fun K "_law_end" "_law_end" st__law_end f fd) (T : Txt K mg) (c__law_ends : DL.Cal P w K mg base 2 "_law_ends" ["words"] F__law_ends) : FnG P w K mg base (L2.CX P w) 3 f fd ["words", "text"] (spD K mg 2 F__law_end) := by
  refine fnD (N := ["words", "text", "ends", "at"]) (B := B__law_end) F sc__law_end fun cdv A outer s H E b hr hK hM => ?_
  have hx : Passes (L2.CX P w) (cxOf (L2.CX P w) P w K mg base ["words", "text", "ends", "at"] "_law_end" (defScope st__law_end) f cdv A outer s H E) E := passT (takes_of rfl rfl rfl rfl)
  have hp : PassesOwn (model P w) (A.deeper (PyProof.Rows.envOfC "_law_end" (defScope st__law_end) s.heap.objs.size f cdv)) (PyProof.Rows.envOfC "_law_end" (defScope st__law_end) s.heap.objs.size f cdv) (cxOf (L2.CX P w) P w K mg base ["words", "text", "ends", "at"] "_law_end" (defScope st__law_end) f cdv A outer s H E).xe := passes_of (X := cxOf (L2.CX P w) P w K mg base ["words", "text", "ends", "at"] "_law_end" (defScope st__law_end) f cdv A outer s H E) rfl
  exact (dss_cons (by exact (ds_set (i := 2) sc__law_end.nd rfl (by first | exact Or.inl rfl | exact Or.inr rfl) (by exact (de_c c__law_ends hK.symm hM.symm hx hr (by decide) (by rfl) (da_cons (de_var (pv 0)) da_nil))))) (by exact
  (dss_one (by exact (ds_ret (by exact (de_ix hK.symm (hu1 hr) (by exact (de_lc (own := [("at", 3)]) (ix := [3]) rfl sc__law_end.nd (di_range1 (by rfl) T.b_range (da_cons (by exact (de_add (by exact (de_blt cr_len (cb_len hK.symm) (by rfl) T.b_len (by decide +kernel) (da_cons (de_var (pv 1)) da_nil))) (de_con pe_int))) da_nil)) (blkOk_by (by kernel_rfl)) (by decide) (fun s1 H1 _ _ fp1 => (dg_name (pg_name (i := 3) sc__law_end.nd rfl (by first | exact Or.inl rfl | exact Or.inr rfl)))) (fun s1 H1 _ _ fp1 => by exact (dts_one (by exact (dt_in hK.symm (hu1 hr) (by exact (de_slice hK.symm (de_var (pv 1)) (do_some (de_var (pv 3))) do_none)) (de_var (pv 2)))))) (fun s1 H1 _ _ fp1 => by exact (by exact (de_slice hK.symm (de_var (pv 1)) (do_some (de_var (pv 3))) do_none))))) (de_con pe_int))))))))
abbrev st__law_behind : Stmt := top 30
theorem sc__law_behind : FnScope ["words", "end", "text"] ["words", "end", "text"] (defScope st__law_behind) := ⟨rfl, rfl, rfl, by decide +kernel, rfl, by decide +kernel, by decide +kernel⟩
def B__law_behind : SS :=
  (retS (ifE (boolT (callE 2 F__law_holds (consL (varE 0) (consL (opE addD (varE 1) (varE 2)) nilL)))) (conE .non) (callE 2 F__law_end (consL (varE 0) (consL (opE addD (varE 1) (varE 2)) nilL)))))
def F__law_behind : DL.Fn := runS 3 B__law_behind
theorem ok__law_behind {f : Addr} {fd : FuncData} (F : L2.Fun K "_law_behind" "_law_behind" st__law_behind f fd) (T : Txt K mg) (c__law_holds : DL.Cal P w K mg base 1 "_law_holds" ["words", "text"] F__law_holds) (c__law_end : DL.Cal P w K mg base 3 "_law_end" ["words", "text"] F__law_end) : FnG P w K mg base (L2.CX P w) 4 f fd ["words", "end", "text"] (spD K mg 3 F__law_behind) := by
  refine fnD (N := ["words", "end", "text"]) (B := B__law_behind) F sc__law_behind fun cdv A outer s H E b hr hK hM => ?_
  have hx : Passes (L2.CX P w) (cxOf (L2.CX P w) P w K mg base ["words", "end", "text"] "_law_behind" (defScope st__law_behind) f cdv A outer s H E) E := passT (takes_of rfl rfl rfl rfl)
  have hp : PassesOwn (model P w) (A.deeper (PyProof.Rows.envOfC "_law_behind" (defScope st__law_behind) s.heap.objs.size f cdv)) (PyProof.Rows.envOfC "_law_behind" (defScope st__law_behind) s.heap.objs.size f cdv) (cxOf (L2.CX P w) P w K mg base ["words", "end", "text"] "_law_behind" (defScope st__law_behind) f cdv A outer s H E).xe := passes_of (X := cxOf (L2.CX P w) P w K mg base ["words", "end", "text"] "_law_behind" (defScope st__law_behind) f cdv A outer s H E) rfl
  exact (dss_one (by exact (ds_ret (by exact (de_if (by exact (dt_val (by exact (de_c c__law_holds hK.symm hM.symm hx hr (by decide) (by rfl) (da_cons (de_var (pv 0)) (da_cons (by exact (de_add (de_var (pv 1)) (de_var (pv 2)))) da_nil)))))) (de_con pe_non) (by exact (de_c c__law_end hK.symm hM.symm hx hr (by decide) (by rfl) (da_cons (de_var (pv 0)) (da_cons (by exact (de_add (de_var (pv 1)) (de_var (pv 2)))) da_nil)))))))))
abbrev st__law_pick : Stmt := top 24
theorem sc__law_pick : FnScope ["pen", "some"] ["pen", "some"] (defScope st__law_pick) := ⟨rfl, rfl, rfl, by decide +kernel, rfl, by decide +kernel, by decide +kernel⟩
def B__law_pick : SS :=
  (retS (opE ixD (varE 1) (callE 2 F__law_draw (consL (varE 0) (consL (cbE lenF (consL (varE 1) nilL)) nilL)))))
def F__law_pick : DL.Fn := runS 2 B__law_pick
theorem ok__law_pick {f : Addr} {fd : FuncData} (F : L2.Fun K "_law_pick" "_law_pick" st__law_pick f fd) (T : Txt K mg) (c__law_draw : DL.Cal P w K mg base 1 "_law_draw" ["pen", "many"] F__law_draw) : FnG P w K mg base (L2.CX P w) 2 f fd ["pen", "some"] (spD K mg 2 F__law_pick) := by
  refine fnD (N := ["pen", "some"]) (B := B__law_pick) F sc__law_pick fun cdv A outer s H E b hr hK hM => ?_
  have hx : Passes (L2.CX P w) (cxOf (L2.CX P w) P w K mg base ["pen", "some"] "_law_pick" (defScope st__law_pick) f cdv A outer s H E) E := passT (takes_of rfl rfl rfl rfl)
  have hp : PassesOwn (model P w) (A.deeper (PyProof.Rows.envOfC "_law_pick" (defScope st__law_pick) s.heap.objs.size f cdv)) (PyProof.Rows.envOfC "_law_pick" (defScope st__law_pick) s.heap.objs.size f cdv) (cxOf (L2.CX P w) P w K mg base ["pen", "some"] "_law_pick" (defScope st__law_pick) f cdv A outer s H E).xe := passes_of (X := cxOf (L2.CX P w) P w K mg base ["pen", "some"] "_law_pick" (defScope st__law_pick) f cdv A outer s H E) rfl
  exact (dss_one (by exact (ds_ret (by exact (de_ix hK.symm (hu1 hr) (de_var (pv 1)) (by exact (de_c c__law_draw hK.symm hM.symm hx hr (by decide) (by rfl) (da_cons (de_var (pv 0)) (da_cons (by exact (de_blt cr_len (cb_len hK.symm) (by rfl) T.b_len (by decide +kernel) (da_cons (de_var (pv 1)) da_nil))) da_nil)))))))))
abbrev st__law_word : Stmt := top 25
theorem sc__law_word : FnScope ["pen", "signs", "least", "most", "turn"] ["pen", "signs", "least", "most"] (defScope st__law_word) := ⟨rfl, rfl, rfl, by decide +kernel, rfl, by decide +kernel, by decide +kernel⟩
def B__law_word : SS :=
  (retS (mtE joinF (conE (.str "")) (lcE [4] (rng1I (consL (opE addD (varE 2) (callE 2 F__law_draw (consL (varE 0) (consL (opE addD (opE subI (varE 3) (varE 2)) (conE (.int 1))) nilL)))) nilL)) (nameG 4) yesT (callE 2 F__law_pick (consL (varE 0) (consL (varE 1) nilL))))))
def F__law_word : DL.Fn := runS 5 B__law_word
theorem ok__law_word {f : Addr} {fd : FuncData} (F : L2.Fun K "_law_word" "_law_word" st__law_word f fd) (T : Txt K mg) (c__law_draw : DL.Cal P w K mg base 1 "_law_draw" ["pen", "many"] F__law_draw) (c__law_pick : DL.Cal P w K mg base 2 "_law_pick" ["pen", "some"] F__law_pick) : FnG P w K mg base (L2.CX P w) 3 f fd ["pen", "signs", "least", "most"] (spD K mg 4 F__law_word) := by
  refine fnD (N := ["pen", "signs", "least", "most", "turn"]) (B := B__law_word) F sc__law_word fun cdv A outer s H E b hr hK hM => ?_
  have hx : Passes (L2.CX P w) (cxOf (L2.CX P w) P w K mg base ["pen", "signs", "least", "most", "turn"] "_law_word" (defScope st__law_word) f cdv A outer s H E) E := passT (takes_of rfl rfl rfl rfl)
  have hp : PassesOwn (model P w) (A.deeper (PyProof.Rows.envOfC "_law_word" (defScope st__law_word) s.heap.objs.size f cdv)) (PyProof.Rows.envOfC "_law_word" (defScope st__law_word) s.heap.objs.size f cdv) (cxOf (L2.CX P w) P w K mg base ["pen", "signs", "least", "most", "turn"] "_law_word" (defScope st__law_word) f cdv A outer s H E).xe := passes_of (X := cxOf (L2.CX P w) P w K mg base ["pen", "signs", "least", "most", "turn"] "_law_word" (defScope st__law_word) f cdv A outer s H E) rfl
  exact (dss_one (by exact (ds_ret (by exact (de_m1 PySem.F.slot_str_join PySem.F.type_str_join mt_join (md_join hK.symm) (de_con pe_str) (by exact (de_lc (own := [("turn", 4)]) (ix := [4]) rfl sc__law_word.nd (di_range1 (by rfl) T.b_range (da_cons (by exact (de_add (de_var (pv 2)) (by exact (de_c c__law_draw hK.symm hM.symm hx hr (by decide) (by rfl) (da_cons (de_var (pv 0)) (da_cons (by exact (de_add (by exact (de_sub (de_var (pv 3)) (de_var (pv 2)))) (de_con pe_int))) da_nil)))))) da_nil)) (blkOk_by (by kernel_rfl)) (by decide) (fun s1 H1 _ _ fp1 => (dg_name (pg_name (i := 4) sc__law_word.nd rfl (by first | exact Or.inl rfl | exact Or.inr rfl)))) (fun s1 H1 _ _ fp1 => by exact dts_nil) (fun s1 H1 _ _ fp1 => by exact (by exact (de_c (X := (L2.Cx.blk (cxOf (L2.CX P w) P w K mg base ["pen", "signs", "least", "most", "turn"] "_law_word" (defScope st__law_word) f cdv A outer s H E) s1 H1 _ _ fp1)) c__law_pick hK.symm hM.symm DL.pass0 hr (by decide) (by rfl) (da_cons (de_var (pv 0)) (da_cons (de_var (pv 1)) da_nil))))))))))))
abbrev st__law_some_bars : Stmt := top 31
theorem sc__law_some_bars : FnScope ["pen", "signs", "words", "turn"] ["pen"] (defScope st__law_some_bars) := ⟨rfl, rfl, rfl, by decide +kernel, rfl, by decide +kernel, by decide +kernel⟩
def B__law_some_bars : SS :=
  (seqS (asgS (nameG 1) (callE 2 F__law_pick (consL (varE 0) (consL (lstE (consL (conE (.str "01")) (consL (conE (.str "ab")) (consL (conE (.str "019")) (consL (conE (.str "xyz")) (consL (conE (.str "0abz")) nilL)))))) nilL))))
  (seqS (asgS (nameG 2) (lcE [3] (rng1I (consL (callE 2 F__law_draw (consL (varE 0) (consL (conE (.int 5)) nilL))) nilL)) (nameG 3) yesT (callE 4 F__law_word (consL (varE 0) (consL (varE 1) (consL (opE addD (conE (.int 1)) (cbE intF (consL (opE gtD (callE 2 F__law_draw (consL (varE 0) (consL (conE (.int 4)) nilL))) (conE (.int 0))) nilL))) (consL (conE (.int 5)) nilL)))))))
  (retS (tupE (consL (varE 1) (consL (opE addD (varE 2) (slE (varE 2) noO (someO (callE 2 F__law_draw (consL (varE 0) (consL (conE (.int 2)) nilL)))))) nilL))))))
def F__law_some_bars : DL.Fn := runS 4 B__law_some_bars
theorem ok__law_some_bars {f : Addr} {fd : FuncData} (F : L2.Fun K "_law_some_bars" "_law_some_bars" st__law_some_bars f fd) (T : Txt K mg) (c__law_pick : DL.Cal P w K mg base 2 "_law_pick" ["pen", "some"] F__law_pick) (c__law_draw : DL.Cal P w K mg base 1 "_law_draw" ["pen", "many"] F__law_draw) (c__law_word : DL.Cal P w K mg base 3 "_law_word" ["pen", "signs", "least", "most"] F__law_word) : FnG P w K mg base (L2.CX P w) 4 f fd ["pen"] (spD K mg 1 F__law_some_bars) := by
  refine fnD (N := ["pen", "signs", "words", "turn"]) (B := B__law_some_bars) F sc__law_some_bars fun cdv A outer s H E b hr hK hM => ?_
  have hx : Passes (L2.CX P w) (cxOf (L2.CX P w) P w K mg base ["pen", "signs", "words", "turn"] "_law_some_bars" (defScope st__law_some_bars) f cdv A outer s H E) E := passT (takes_of rfl rfl rfl rfl)
  have hp : PassesOwn (model P w) (A.deeper (PyProof.Rows.envOfC "_law_some_bars" (defScope st__law_some_bars) s.heap.objs.size f cdv)) (PyProof.Rows.envOfC "_law_some_bars" (defScope st__law_some_bars) s.heap.objs.size f cdv) (cxOf (L2.CX P w) P w K mg base ["pen", "signs", "words", "turn"] "_law_some_bars" (defScope st__law_some_bars) f cdv A outer s H E).xe := passes_of (X := cxOf (L2.CX P w) P w K mg base ["pen", "signs", "words", "turn"] "_law_some_bars" (defScope st__law_some_bars) f cdv A outer s H E) rfl
  exact (dss_cons (by exact (ds_set (i := 1) sc__law_some_bars.nd rfl (by first | exact Or.inl rfl | exact Or.inr rfl) (by exact (de_c c__law_pick hK.symm hM.symm hx hr (by decide) (by rfl) (da_cons (de_var (pv 0)) (da_cons (by exact (de_lst (da_cons (de_con pe_str) (da_cons (de_con pe_str) (da_cons (de_con pe_str) (da_cons (de_con pe_str) (da_cons (de_con pe_str) da_nil))))))) da_nil)))))) (by exact
  (dss_cons (by exact (ds_setLc (i := 2) (own := [("turn", 3)]) (ix := [3]) rfl sc__law_some_bars.nd rfl rfl (sw_true rfl rfl rfl (by decide +kernel)) (di_range1 (by rfl) T.b_range (da_cons (by exact (de_c c__law_draw hK.symm hM.symm hx hr (by decide) (by rfl) (da_cons (de_var (pv 0)) (da_cons (de_con pe_int) da_nil)))) da_nil)) (blkOk_by (by kernel_rfl)) (by decide) (fun s1 H1 _ _ fp1 => (dg_name (pg_name (i := 3) sc__law_some_bars.nd rfl (by first | exact Or.inl rfl | exact Or.inr rfl)))) (fun s1 H1 _ _ fp1 => by exact dts_nil) (fun s1 H1 _ _ fp1 => by exact (by exact (de_c (X := (L2.Cx.blk (cxOf (L2.CX P w) P w K mg base ["pen", "signs", "words", "turn"] "_law_some_bars" (defScope st__law_some_bars) f cdv A outer s H E) s1 H1 _ _ fp1)) c__law_word hK.symm hM.symm DL.pass0 hr (by decide) (by rfl) (da_cons (de_var (pv 0)) (da_cons (de_var (pv 1)) (da_cons (by exact (de_add (de_con pe_int) (by exact (de_bty call_int1 cb_int (by rfl) T.b_int (by decide +kernel) (da_cons (by exact (de_gt (by exact (de_c (X := (L2.Cx.blk (cxOf (L2.CX P w) P w K mg base ["pen", "signs", "words", "turn"] "_law_some_bars" (defScope st__law_some_bars) f cdv A outer s H E) s1 H1 _ _ fp1)) c__law_draw hK.symm hM.symm DL.pass0 hr (by decide) (by rfl) (da_cons (de_var (pv 0)) (da_cons (de_con pe_int) da_nil)))) (de_con pe_int))) da_nil))))) (da_cons (de_con pe_int) da_nil))))))))) (by exact
  (dss_one (by exact (ds_ret (by exact (de_tup (da_cons (de_var (pv 1)) (da_cons (by exact (de_add (de_var (pv 2)) (by exact (de_slice hK.symm (de_var (pv 2)) do_none (do_some (by exact (de_c c__law_draw hK.symm hM.symm hx hr (by decide) (by rfl) (da_cons (de_var (pv 0)) (da_cons (de_con pe_int) da_nil))))))))) da_nil)))))))))))
abbrev st__law_asked_right : Stmt := top 32
theorem sc__law_asked_right : FnScope ["pen", "bars", "signs", "words", "text", "least", "end", "more"] ["pen", "bars", "signs", "words"] (defScope st__law_asked_right) := ⟨rfl, rfl, rfl, by decide +kernel, rfl, by decide +kernel, by decide +kernel⟩
def B__law_asked_right : SS :=
  (seqS (asgS (nameG 4) (callE 4 F__law_word (consL (varE 0) (consL (varE 2) (consL (conE (.int 0)) (consL (conE (.int 9)) nilL))))))
  (seqS (asgS (nameG 5) (callE 1 F__law_least_words (consL (varE 3) nilL)))
  (seqS (ifS (boolT (opE neD (opM (oinF "Bars" false 2 F_Bars_contains) (varE 4) (varE 1)) (callE 2 F__law_holds (consL (varE 5) (consL (varE 4) nilL))))) (retS (conE (.bl false))) skipS)
  (seqS (ifS (andT (notT (boolT (callE 2 F__law_holds (consL (varE 5) (consL (varE 4) nilL))))) (orT (boolT (opE neD (methE "Bars" "end_of" 2 F_Bars_end_of (varE 1) (consL (varE 4) nilL)) (callE 2 F__law_end (consL (varE 5) (consL (varE 4) nilL))))) (boolT (opE neD (methKE "Bars" "end_of" 2 1 [0, 1] F_Bars_end_of (varE 1) (consL (varE 4) nilL)) (callE 2 F__law_end (consL (varE 5) (consL (varE 4) nilL))))))) (retS (conE (.bl false))) skipS)
  (seqS (parS 6 7 (consL (callE 2 F__law_pick (consL (varE 0) (consL (un1 (fldF fc_ends "ends") (varE 1)) nilL))) (consL (callE 4 F__law_word (consL (varE 0) (consL (varE 2) (consL (conE (.int 0)) (consL (conE (.int 4)) nilL))))) nilL)))
  (retS (andE (opE eqD (methE "Bars" "behind" 3 F_Bars_behind (varE 1) (consL (varE 6) (consL (varE 7) nilL))) (callE 3 F__law_behind (consL (varE 5) (consL (varE 6) (consL (varE 7) nilL))))) (opE eqD (methKE "Bars" "behind" 3 2 [0, 2, 1] F_Bars_behind (varE 1) (consL (varE 7) (consL (varE 6) nilL))) (methE "Bars" "behind" 3 F_Bars_behind (varE 1) (consL (varE 6) (consL (varE 7) nilL)))))))))))
def F__law_asked_right : DL.Fn := runS 8 B__law_asked_right
theorem ok__law_asked_right {f : Addr} {fd : FuncData} (F : L2.Fun K "_law_asked_right" "_law_asked_right" st__law_asked_right f fd) (T : Txt K mg) (c__law_word : DL.Cal P w K mg base 3 "_law_word" ["pen", "signs", "least", "most"] F__law_word) (c__law_least_words : DL.Cal P w K mg base 1 "_law_least_words" ["words"] F__law_least_words) (d_Bars_contains : DL.Dun P w K mg base 2 "Bars" "__contains__" ["self", "text"] F_Bars_contains) (c__law_holds : DL.Cal P w K mg base 1 "_law_holds" ["words", "text"] F__law_holds) (c_Bars_end_of : DL.Met P w K mg base 2 "Bars" "end_of" ["self", "text"] F_Bars_end_of) (c__law_end : DL.Cal P w K mg base 3 "_law_end" ["words", "text"] F__law_end) (k_Bars_end_of_text : DL.MetK P w K mg base 2 "Bars" "end_of" ["self", "text"] ["text"] [0, 1] F_Bars_end_of) (c__law_pick : DL.Cal P w K mg base 2 "_law_pick" ["pen", "some"] F__law_pick) (c_Bars_behind : DL.Met P w K mg base 2 "Bars" "behind" ["self", "end", "text"] F_Bars_behind) (c__law_behind : DL.Cal P w K mg base 4 "_law_behind" ["words", "end", "text"] F__law_behind) (k_Bars_behind_text_end : DL.MetK P w K mg base 2 "Bars" "behind" ["self", "end", "text"] ["text", "end"] [0, 2, 1] F_Bars_behind) : FnG P w K mg base (L2.CX P w) 5 f fd ["pen", "bars", "signs", "words"] (spD K mg 4 F__law_asked_right) := by
  refine fnD (N := ["pen", "bars", "signs", "words", "text", "least", "end", "more"]) (B := B__law_asked_right) F sc__law_asked_right fun cdv A outer s H E b hr hK hM => ?_
  have hx : Passes (L2.CX P w) (cxOf (L2.CX P w) P w K mg base ["pen", "bars", "signs", "words", "text", "least", "end", "more"] "_law_asked_right" (defScope st__law_asked_right) f cdv A outer s H E) E := passT (takes_of rfl rfl rfl rfl)
  have hp : PassesOwn (model P w) (A.deeper (PyProof.Rows.envOfC "_law_asked_right" (defScope st__law_asked_right) s.heap.objs.size f cdv)) (PyProof.Rows.envOfC "_law_asked_right" (defScope st__law_asked_right) s.heap.objs.size f cdv) (cxOf (L2.CX P w) P w K mg base ["pen", "bars", "signs", "words", "text", "least", "end", "more"] "_law_asked_right" (defScope st__law_asked_right) f cdv A outer s H E).xe := passes_of (X := cxOf (L2.CX P w) P w K mg base ["pen", "bars", "signs", "words", "text", "least", "end", "more"] "_law_asked_right" (defScope st__law_asked_right) f cdv A outer s H E) rfl
  exact (dss_cons (by exact (ds_set (i := 4) sc__law_asked_right.nd rfl (by first | exact Or.inl rfl | exact Or.inr rfl) (by exact (de_c c__law_word hK.symm hM.symm hx hr (by decide) (by rfl) (da_cons (de_var (pv 0)) (da_cons (de_var (pv 2)) (da_cons (de_con pe_int) (da_cons (de_con pe_int) da_nil)))))))) (by exact
  (dss_cons (by exact (ds_set (i := 5) sc__law_asked_right.nd rfl (by first | exact Or.inl rfl | exact Or.inr rfl) (by exact (de_c c__law_least_words hK.symm hM.symm hx hr (by decide) (by rfl) (da_cons (de_var (pv 3)) da_nil))))) (by exact
  (dss_cons (by exact (ds_if (by exact (dt_ne hK.symm (hu64 hr) (by exact (de_oin d_Bars_contains hK.symm hM.symm hx hr (by decide) (de_var (pv 4)) (de_var (pv 1)))) (by exact (de_c c__law_holds hK.symm hM.symm hx hr (by decide) (by rfl) (da_cons (de_var (pv 5)) (da_cons (de_var (pv 4)) da_nil)))))) (dss_one (by exact (ds_ret (de_con pe_bl)))) dss_nil)) (by exact
  (dss_cons (by exact (ds_if (by exact (PW.pt (dw_and (by exact (dt_not (by exact (dt_val (by exact (de_c c__law_holds hK.symm hM.symm hx hr (by decide) (by rfl) (da_cons (de_var (pv 5)) (da_cons (de_var (pv 4)) da_nil)))))))) (dw_and1 (by exact (PW.pt (dw_or (by exact (dt_ne hK.symm (hu64 hr) (by exact (de_mt c_Bars_end_of hK.symm hM.symm hx hr (by decide) (de_var (pv 1)) (da_cons (de_var (pv 4)) da_nil))) (by exact (de_c c__law_end hK.symm hM.symm hx hr (by decide) (by rfl) (da_cons (de_var (pv 5)) (da_cons (de_var (pv 4)) da_nil)))))) (dw_or1 (by exact (dt_ne hK.symm (hu64 hr) (by exact (de_mtK k_Bars_end_of_text hK.symm hM.symm hx hr (by decide) (de_var (pv 1)) (dk_cons (de_var (pv 4)) dk_nil))) (by exact (de_c c__law_end hK.symm hM.symm hx hr (by decide) (by rfl) (da_cons (de_var (pv 5)) (da_cons (de_var (pv 4)) da_nil)))))))))))))) (dss_one (by exact (ds_ret (de_con pe_bl)))) dss_nil)) (by exact
  (dss_cons (by exact (ds_par (i := 6) (j := 7) rfl sc__law_asked_right.nd rfl rfl (by decide) rfl rfl (da_cons (by exact (de_c c__law_pick hK.symm hM.symm hx hr (by decide) (by rfl) (da_cons (de_var (pv 0)) (da_cons (by exact (de_fld hK.symm (by rw [hK, hM]; exact T.f_ends) (de_var (pv 1)))) da_nil)))) (da_cons (by exact (de_c c__law_word hK.symm hM.symm hx hr (by decide) (by rfl) (da_cons (de_var (pv 0)) (da_cons (de_var (pv 2)) (da_cons (de_con pe_int) (da_cons (de_con pe_int) da_nil)))))) da_nil)))) (by exact
  (dss_one (by exact (ds_ret (by exact (de_and (by exact (de_eq hK.symm (hu64 hr) (by exact (de_mt c_Bars_behind hK.symm hM.symm hx hr (by decide) (de_var (pv 1)) (da_cons (de_var (pv 6)) (da_cons (de_var (pv 7)) da_nil)))) (by exact (de_c c__law_behind hK.symm hM.symm hx hr (by decide) (by rfl) (da_cons (de_var (pv 5)) (da_cons (de_var (pv 6)) (da_cons (de_var (pv 7)) da_nil))))))) (de_one (by exact (de_eq hK.symm (hu64 hr) (by exact (de_mtK k_Bars_behind_text_end hK.symm hM.symm hx hr (by decide) (de_var (pv 1)) (dk_cons (de_var (pv 7)) (dk_cons (de_var (pv 6)) dk_nil)))) (by exact (de_mt c_Bars_behind hK.symm hM.symm hx hr (by decide) (de_var (pv 1)) (da_cons (de_var (pv 6)) (da_cons (de_var (pv 7)) da_nil))))))))))))))))))))))
abbrev st_law : Stmt := top 33
theorem sc_law : FnScope ["script", "pen", "lap", "signs", "words", "least", "bars", "mixed", "turn", "runs", "word"] ["script"] (defScope st_law) := ⟨rfl, rfl, rfl, by decide +kernel, rfl, by decide +kernel, by decide +kernel⟩
def B_law : SS :=
  (seqS (forS (rng1I (consL (conE (.int 6)) nilL)) (nameG 2) (seqS (asgS (tupG 2 (consG (nameG 3) (consG (nameG 4) nilG))) (callE 1 F__law_some_bars (consL (varE 1) nilL)))
  (seqS (asgS (nameG 5) (callE 1 F__law_least_words (consL (varE 4) nilL)))
  (ifS (boolT (opE ltD (cbE lenF (consL (callE 1 F__law_ends (consL (varE 5) nilL)) nilL)) (conE (.int 17)))) (seqS (parS 6 7 (consL (callE 2 F_Bars_of (consL (varE 3) (consL (varE 4) nilL))) (consL (opE addD (un1 revF (varE 4)) (slE (varE 4) noO (someO (conE (.int 1))))) nilL)))
  (seqS (ifS (orT (boolT (opE neD (un1 (fldF fc_signs "signs") (varE 6)) (varE 3))) (orT (boolT (opE neD (cbE reprF (consL (un1 (fldF fc_words "words") (varE 6)) nilL)) (cbE reprF (consL (cbE tupF (consL (varE 5) nilL)) nilL)))) (boolT (opE neD (cbE reprF (consL (un1 (fldF fc_ends "ends") (varE 6)) nilL)) (cbE reprF (consL (cbE tupF (consL (callE 1 F__law_ends (consL (varE 5) nilL)) nilL)) nilL)))))) (retS (conE (.bl false))) skipS)
  (seqS (ifS (orT (boolT (opE neD (olenE "Bars" 1 F_Bars_len (varE 6)) (cbE lenF (consL (varE 5) nilL)))) (orT (boolT (opE neD (lcE [10] (ownI "Bars" "words" (varE 6)) (nameG 10) yesT (varE 10)) (varE 5))) (boolT (opM (oeqF "Bars" true te_Bars 2 F_Bars_eq) (varE 6) (callKE 2 2 [1, 0] F_Bars_of (consL (cbE tupF (consL (varE 7) nilL)) (consL (varE 3) nilL))))))) (retS (conE (.bl false))) skipS)
  (seqS (ifS (orT (boolT (opE neD (opM (oeqF "Bars" false te_Bars 2 F_Bars_eq) (varE 6) (callSE 1 F_Bars_init (consL (varE 3) nilL))) (opE eqD (varE 5) (lstE nilL)))) (orT (boolT (opM (oeqF "Bars" false te_Bars 2 F_Bars_eq) (varE 6) (cbE tupF (consL (varE 5) nilL)))) (orT (boolT (opM (oinF "Bars" false 2 F_Bars_contains) (conE .non) (varE 6))) (orT (boolT (opM (oinF "Bars" false 2 F_Bars_contains) (conE (.int 0)) (varE 6))) (boolT (opM (oinF "Bars" false 2 F_Bars_contains) (lstE (consL (conE (.str "")) nilL)) (varE 6))))))) (retS (conE (.bl false))) skipS)
  (forS (rng1I (consL (conE (.int 5)) nilL)) (nameG 8) (ifS (notT (boolT (callE 4 F__law_asked_right (consL (varE 1) (consL (varE 6) (consL (varE 3) (consL (varE 4) nilL))))))) (retS (conE (.bl false))) skipS)))))) skipS))))
  (seqS (asgS (nameG 9) (callSE 1 F_Bars_init (consL (conE (.str "01")) (consL (conE (.str "111")) (consL (conE (.str "0111")) (consL (conE (.str "00")) nilL))))))
  (retS (opE eqD (lstE (consL (un1 (fldF fc_words "words") (varE 9)) (consL (un1 (fldF fc_ends "ends") (varE 9)) (consL (methE "Bars" "behind" 3 F_Bars_behind (varE 9) (consL (conE (.str "11")) (consL (conE (.str "0")) nilL))) (consL (methE "Bars" "behind" 3 F_Bars_behind (varE 9) (consL (conE (.str "0")) (consL (conE (.str "11")) nilL))) (consL (opM (oinF "Bars" false 2 F_Bars_contains) (conE (.str "0110")) (varE 9)) nilL)))))) (lstE (consL (tupE (consL (conE (.str "00")) (consL (conE (.str "111")) nilL))) (consL (tupE (consL (conE (.str "")) (consL (conE (.str "0")) (consL (conE (.str "1")) (consL (conE (.str "11")) nilL))))) (consL (conE (.str "0")) (consL (conE (.str "11")) (consL (conE (.bl false)) nilL))))))))))
theorem ok_law {f fp : Addr} {fd fdp : FuncData} (F : L2.Fun K "law" "law" st_law f fd) (T : Txt K mg) (Fp : FnG P w K mg base (L2.CX P w) 1 fp fdp ["script"] (spPen K)) (mp : mg "_law_pen" = some (.ref fp)) (kp : PySem.W.keepIn K (.ref fp) = true) (bp : Binds K fdp ["script"] []) (c__law_some_bars : DL.Cal P w K mg base 4 "_law_some_bars" ["pen"] F__law_some_bars) (c__law_least_words : DL.Cal P w K mg base 1 "_law_least_words" ["words"] F__law_least_words) (c__law_ends : DL.Cal P w K mg base 2 "_law_ends" ["words"] F__law_ends) (c_Bars_of : DL.SMet P w K mg base 5 "Bars" "of" ["signs", "words"] F_Bars_of) (d_Bars_len : DL.Dun P w K mg base 1 "Bars" "__len__" ["self"] F_Bars_len) (d_Bars_iter : DL.DunIt P w K mg base 1 "Bars" "words") (k_Bars_of_words_signs : DL.SMetK P w K mg base 5 "Bars" "of" ["signs", "words"] ["words", "signs"] [1, 0] F_Bars_of) (d_Bars_eq : DL.DunEq P w K mg base 1 "Bars" ["self", "other"] F_Bars_eq te_Bars) (c_Bars_init : DL.MakS P w K mg base 3 "Bars" 1 F_Bars_init) (d_Bars_contains : DL.Dun P w K mg base 2 "Bars" "__contains__" ["self", "text"] F_Bars_contains) (c__law_asked_right : DL.Cal P w K mg base 5 "_law_asked_right" ["pen", "bars", "signs", "words"] F__law_asked_right) (c_Bars_behind : DL.Met P w K mg base 2 "Bars" "behind" ["self", "end", "text"] F_Bars_behind)
    (hB : (B_law (env0 9)).All (fun r _ => isTrue r) (fun _ _ _ => False) 100000) : FnG P w K mg base (L2.CX P w) 6 f fd ["script"] (spLaw K) := by
  refine okG F sc_law (fun vs H Q E h => ?_) (fun cdv A outer s H vs Q E hr h => ?_)
  · obtain ⟨a, ns, rfl, _⟩ := h
    rfl
  · obtain ⟨a, ns, rfl, hS, hlen, q⟩ := h
    have hx : Passes (L2.CX P w) (cxOf (L2.CX P w) P w K mg base ["script", "pen", "lap", "signs", "words", "least", "bars", "mixed", "turn", "runs", "word"] "law" (defScope st_law) f cdv A outer s H E) E := passT (takes_of rfl rfl rfl rfl)
    have hp : PassesOwn (model P w) (A.deeper (PyProof.Rows.envOfC "law" (defScope st_law) s.heap.objs.size f cdv)) (PyProof.Rows.envOfC "law" (defScope st_law) s.heap.objs.size f cdv) (cxOf (L2.CX P w) P w K mg base ["script", "pen", "lap", "signs", "words", "least", "bars", "mixed", "turn", "runs", "word"] "law" (defScope st_law) f cdv A outer s H E).xe := passes_of (X := cxOf (L2.CX P w) P w K mg base ["script", "pen", "lap", "signs", "words", "least", "bars", "mixed", "turn", "runs", "word"] "law" (defScope st_law) f cdv A outer s H E) rfl
    have rest : ∀ b : Bx, b.K = K → b.mg = mg → PSs (cxOf (L2.CX P w) P w K mg base ["script", "pen", "lap", "signs", "words", "least", "bars", "mixed", "turn", "runs", "word"] "law" (defScope st_law) f cdv A outer s H E) ((defBody st_law).drop 1) (tS b E B_law) := by
      intro b hK hM
      exact (dss_cons (by exact (ds_for hp rfl (di_range1 (by rfl) T.b_range (da_cons (de_con pe_int) da_nil)) (dg_name (pg_name (i := 2) sc_law.nd rfl (by first | exact Or.inl rfl | exact Or.inr rfl))) (dss_cons (by exact (ds_asg (by exact (de_c c__law_some_bars hK.symm hM.symm hx hr (by decide) (by rfl) (da_cons (de_var (pv 1)) da_nil))) (dg_tup hK.symm rfl (dgs_cons (dg_name (pg_name (i := 3) sc_law.nd rfl (by first | exact Or.inl rfl | exact Or.inr rfl))) (dgs_cons (dg_name (pg_name (i := 4) sc_law.nd rfl (by first | exact Or.inl rfl | exact Or.inr rfl))) dgs_nil))))) (by exact
  (dss_cons (by exact (ds_set (i := 5) sc_law.nd rfl (by first | exact Or.inl rfl | exact Or.inr rfl) (by exact (de_c c__law_least_words hK.symm hM.symm hx hr (by decide) (by rfl) (da_cons (de_var (pv 4)) da_nil))))) (by exact
  (dss_one (by exact (ds_if (by exact (dt_lt (by exact (de_blt cr_len (cb_len hK.symm) (by rfl) T.b_len (by decide +kernel) (da_cons (by exact (de_c c__law_ends hK.symm hM.symm hx hr (by decide) (by rfl) (da_cons (de_var (pv 5)) da_nil))) da_nil))) (de_con pe_int))) (dss_cons (by exact (ds_par (i := 6) (j := 7) rfl sc_law.nd rfl rfl (by decide) rfl rfl (da_cons (by exact (de_sm c_Bars_of hK.symm hM.symm hx hr (by decide) (by rfl) (da_cons (de_var (pv 3)) (da_cons (de_var (pv 4)) da_nil)))) (da_cons (by exact (de_add (by exact (de_rev (de_var (pv 4)))) (by exact (de_slice hK.symm (de_var (pv 4)) do_none (do_some (de_con pe_int)))))) da_nil)))) (by exact
  (dss_cons (by exact (ds_if (by exact (PW.pt (dw_or (by exact (dt_ne hK.symm (hu64 hr) (by exact (de_fld hK.symm (by rw [hK, hM]; exact T.f_signs) (de_var (pv 6)))) (de_var (pv 3)))) (dw_or (by exact (dt_ne hK.symm (hu64 hr) (by exact (de_blt (call_repr hr) (cb_repr hK.symm) (by rfl) T.b_repr (by decide +kernel) (da_cons (by exact (de_fld hK.symm (by rw [hK, hM]; exact T.f_words) (de_var (pv 6)))) da_nil))) (by exact (de_blt (call_repr hr) (cb_repr hK.symm) (by rfl) T.b_repr (by decide +kernel) (da_cons (by exact (de_bty call_tuple_of (cb_tup hK.symm) (by rfl) T.b_tuple (by decide +kernel) (da_cons (de_var (pv 5)) da_nil))) da_nil))))) (dw_or1 (by exact (dt_ne hK.symm (hu64 hr) (by exact (de_blt (call_repr hr) (cb_repr hK.symm) (by rfl) T.b_repr (by decide +kernel) (da_cons (by exact (de_fld hK.symm (by rw [hK, hM]; exact T.f_ends) (de_var (pv 6)))) da_nil))) (by exact (de_blt (call_repr hr) (cb_repr hK.symm) (by rfl) T.b_repr (by decide +kernel) (da_cons (by exact (de_bty call_tuple_of (cb_tup hK.symm) (by rfl) T.b_tuple (by decide +kernel) (da_cons (by exact (de_c c__law_ends hK.symm hM.symm hx hr (by decide) (by rfl) (da_cons (de_var (pv 5)) da_nil))) da_nil))) da_nil)))))))))) (dss_one (by exact (ds_ret (de_con pe_bl)))) dss_nil)) (by exact
  (dss_cons (by exact (ds_if (by exact (PW.pt (dw_or (by exact (dt_ne hK.symm (hu64 hr) (by exact (de_olen d_Bars_len hK.symm hM.symm hx hr (by decide) (by rfl) T.b_len (de_var (pv 6)))) (by exact (de_blt cr_len (cb_len hK.symm) (by rfl) T.b_len (by decide +kernel) (da_cons (de_var (pv 5)) da_nil))))) (dw_or (by exact (dt_ne hK.symm (hu64 hr) (by exact (de_lc (own := [("word", 10)]) (ix := [10]) rfl sc_law.nd (di_own d_Bars_iter hK.symm hM.symm hx hr (by decide) (de_var (pv 6))) (blkOk_by (by kernel_rfl)) (by decide) (fun s1 H1 _ _ fp1 => (dg_name (pg_name (i := 10) sc_law.nd rfl (by first | exact Or.inl rfl | exact Or.inr rfl)))) (fun s1 H1 _ _ fp1 => by exact dts_nil) (fun s1 H1 _ _ fp1 => by exact (de_var (pv 10))))) (de_var (pv 5)))) (dw_or1 (by exact (dt_one_ d_Bars_eq hK.symm hM.symm hx hr (by decide) (de_var (pv 6)) (by exact (de_smK k_Bars_of_words_signs hK.symm hM.symm hx hr (by decide) (by rfl) (dk_cons (by exact (de_bty call_tuple_of (cb_tup hK.symm) (by rfl) T.b_tuple (by decide +kernel) (da_cons (de_var (pv 7)) da_nil))) (dk_cons (de_var (pv 3)) dk_nil))))))))))) (dss_one (by exact (ds_ret (de_con pe_bl)))) dss_nil)) (by exact
  (dss_cons (by exact (ds_if (by exact (PW.pt (dw_or (by exact (dt_ne hK.symm (hu64 hr) (by exact (de_oeq d_Bars_eq hK.symm hM.symm hx hr (by decide) (de_var (pv 6)) (by exact (de_makeS c_Bars_init hK.symm hM.symm hx hr (by decide) (by rfl) (da_cons (de_var (pv 3)) da_nil))))) (by exact (de_eq hK.symm (hu64 hr) (de_var (pv 5)) (by exact (de_lst da_nil)))))) (dw_or (by exact (dt_oeq d_Bars_eq hK.symm hM.symm hx hr (by decide) (de_var (pv 6)) (by exact (de_bty call_tuple_of (cb_tup hK.symm) (by rfl) T.b_tuple (by decide +kernel) (da_cons (de_var (pv 5)) da_nil))))) (dw_or (by exact (dt_oin d_Bars_contains hK.symm hM.symm hx hr (by decide) (de_con pe_non) (de_var (pv 6)))) (dw_or (by exact (dt_oin d_Bars_contains hK.symm hM.symm hx hr (by decide) (de_con pe_int) (de_var (pv 6)))) (dw_or1 (by exact (dt_oin d_Bars_contains hK.symm hM.symm hx hr (by decide) (by exact (de_lst (da_cons (de_con pe_str) da_nil))) (de_var (pv 6))))))))))) (dss_one (by exact (ds_ret (de_con pe_bl)))) dss_nil)) (by exact
  (dss_one (by exact (ds_for hp rfl (di_range1 (by rfl) T.b_range (da_cons (de_con pe_int) da_nil)) (dg_name (pg_name (i := 8) sc_law.nd rfl (by first | exact Or.inl rfl | exact Or.inr rfl))) (dss_one (by exact (ds_if (by exact (dt_not (by exact (dt_val (by exact (de_c c__law_asked_right hK.symm hM.symm hx hr (by decide) (by rfl) (da_cons (de_var (pv 1)) (da_cons (de_var (pv 6)) (da_cons (de_var (pv 3)) (da_cons (de_var (pv 4)) da_nil)))))))))) (dss_one (by exact (ds_ret (de_con pe_bl)))) dss_nil)))))))))))))) dss_nil))))))))) (by exact
  (dss_cons (by exact (ds_set (i := 9) sc_law.nd rfl (by first | exact Or.inl rfl | exact Or.inr rfl) (by exact (de_makeS c_Bars_init hK.symm hM.symm hx hr (by decide) (by rfl) (da_cons (de_con pe_str) (da_cons (de_con pe_str) (da_cons (de_con pe_str) (da_cons (de_con pe_str) da_nil)))))))) (by exact
  (dss_one (by exact (ds_ret (by exact (de_eq hK.symm (hu64 hr) (by exact (de_lst (da_cons (by exact (de_fld hK.symm (by rw [hK, hM]; exact T.f_words) (de_var (pv 9)))) (da_cons (by exact (de_fld hK.symm (by rw [hK, hM]; exact T.f_ends) (de_var (pv 9)))) (da_cons (by exact (de_mt c_Bars_behind hK.symm hM.symm hx hr (by decide) (de_var (pv 9)) (da_cons (de_con pe_str) (da_cons (de_con pe_str) da_nil)))) (da_cons (by exact (de_mt c_Bars_behind hK.symm hM.symm hx hr (by decide) (de_var (pv 9)) (da_cons (de_con pe_str) (da_cons (de_con pe_str) da_nil)))) (da_cons (by exact (de_oin d_Bars_contains hK.symm hM.symm hx hr (by decide) (de_con pe_str) (de_var (pv 9)))) da_nil))))))) (by exact (de_lst (da_cons (by exact (de_tup (da_cons (de_con pe_str) (da_cons (de_con pe_str) da_nil)))) (da_cons (by exact (de_tup (da_cons (de_con pe_str) (da_cons (de_con pe_str) (da_cons (de_con pe_str) (da_cons (de_con pe_str) da_nil)))))) (da_cons (de_con pe_str) (da_cons (de_con pe_str) (da_cons (de_con pe_bl) da_nil))))))))))))))))
    refine ⟨_, pss_cons (ps_set (i := 1) sc_law.nd rfl (by first | exact Or.inl rfl | exact Or.inr rfl) (DL.pe_call Fp (hr.mono (by decide)) (by rfl) mp kp bp .nil hx (pa_cons (pv 0) pa_nil))) (pss_any rest), ?_⟩
    exact ⟨_, rfl, a, ns, rfl, hS, hlen, fun p l cells H1 h1 h2 h3 h4 h5 h6 h7 => law_use hB h1 h4 h5 h6 q⟩
end
end K00

set_option Elab.async false
set_option linter.all false
set_option maxRecDepth 100000
set_option maxHeartbeats 4000000
/-! The data layer: what the pure functions give, in plain Lean. -/
namespace DL
open PySem

theorem M.ret_bind {α β : Type} {a : α} {f : α → M β} : (M.ret a).bind f = f a := rfl
theorem M.some_bind {α β : Type} {a : α} {f : α → M β} : (M.ofO (some a)).bind f = f a := rfl
theorem M.ofO_some {α : Type} {a : α} : M.ofO (some a) = .ret a := rfl
theorem nor_ret {α : Type} {a : α} : (M.ret a).nor = .ret a := rfl
theorem M.bind_ret {α : Type} : ∀ {m : M α}, m.bind .ret = m
  | .ret _ => rfl
  | .draw n k => by
    show M.draw n (fun i => (k i).bind .ret) = _
    rw [show (fun i => (k i).bind .ret) = k from funext fun i => M.bind_ret]
  | .raise _ _ => rfl
  | .fail => rfl
theorem M.bind_bind {α β γ : Type} {f : α → M β} {g : β → M γ} : ∀ {m : M α}, (m.bind f).bind g = m.bind fun a => (f a).bind g
  | .ret _ => rfl
  | .draw n k => by
    show M.draw n (fun i => ((k i).bind f).bind g) = M.draw n (fun i => (k i).bind fun a => (f a).bind g)
    rw [show (fun i => ((k i).bind f).bind g) = (fun i => (k i).bind fun a => (f a).bind g) from funext fun i => M.bind_bind]
  | .raise _ _ => rfl
  | .fail => rfl
theorem ret_end {F : SE} {env : PEnv} : (retS F env).bind endD = F env := by
  unfold retS
  rw [M.bind_bind]
  exact M.bind_ret
theorem opE_ret {f : D → D → Option D} {A B : SE} {env : PEnv} {x y : D} (h1 : A env = .ret x) (h2 : B env = .ret y) : opE f A B env = M.ofO (f x y) := by
  unfold opE
  rw [h1, M.ret_bind, h2, M.ret_bind]
theorem consL_ret {A : SE} {L : SL} {env : PEnv} {x : D} {xs : List D} (h1 : A env = .ret x) (h2 : L env = .ret xs) : consL A L env = .ret (x :: xs) := by
  unfold consL
  rw [h1, M.ret_bind, h2, M.ret_bind]
theorem cbE_ret {f : List D → Option D} {L : SL} {env : PEnv} {xs : List D} (h : L env = .ret xs) : cbE f L env = M.ofO (f xs) := by
  unfold cbE
  rw [h, M.ret_bind]
theorem boolT_ret {F : SE} {env : PEnv} {k : Bool} (h : F env = .ret (.bl k)) : boolT F env = .ret k := by
  unfold boolT
  rw [h]
  rfl
theorem notT_ret {T : ST} {env : PEnv} {k : Bool} (h : T env = .ret k) : notT T env = .ret (!k) := by
  unfold notT
  rw [h]
  rfl
theorem andT_ret {A B : ST} {env : PEnv} {x y : Bool} (h1 : A env = .ret x) (h2 : B env = .ret y) : andT A B env = .ret (x && y) := by
  unfold andT
  rw [h1, M.ret_bind]
  cases x
  · rfl
  · exact h2
theorem seqS_nx {A B : SS} {env env' : PEnv} (h : A env = .ret (.nx, env')) : seqS A B env = B env' := by
  unfold seqS
  rw [h]
  rfl
theorem asgS_name {i : Nat} {F : SE} {env : PEnv} {d : D} (h : F env = .ret d) : asgS (nameG i) F env = .ret (.nx, env.set i (.val d)) := by
  unfold asgS
  rw [h]
  rfl
theorem ifS_ret {T : ST} {A B : SS} {env : PEnv} {k : Bool} (h : T env = .ret k) : ifS T A B env = if k = true then A env else B env := by
  unfold ifS
  rw [h]
  rfl
theorem lcLoop_ret {tg : TgS} {ifs : ST} {elt : SE} {env : PEnv} {p : D → Bool} {f : D → D} : ∀ {xs : List D}, (∀ x ∈ xs, ∃ env1, tg x env = some env1 ∧ ifs env1 = .ret (p x) ∧ (p x = true → elt env1 = .ret (f x))) →
    lcLoop tg ifs elt env xs = .ret ((xs.filter p).map f)
  | [], _ => rfl
  | x :: xs, h => by
    obtain ⟨env1, h1, h2, h3⟩ := h x List.mem_cons_self
    have ih := lcLoop_ret (xs := xs) fun y hy => h y (List.mem_cons_of_mem _ hy)
    unfold lcLoop
    rw [h1, M.some_bind, h2, M.ret_bind]
    cases hp : p x with
    | true => rw [if_pos rfl, h3 hp, M.ret_bind, ih, M.ret_bind, List.filter_cons_of_pos hp, List.map_cons]
    | false => rw [if_neg (by simp), ih, List.filter_cons_of_neg (by simp [hp])]
/-- a comprehension over xs -/
theorem lcE_ret {own : List Nat} {it : SL} {tg : TgS} {ifs : ST} {elt : SE} {env : PEnv} {xs : List D} {p : D → Bool} {f : D → D} (hi : it env = .ret xs) (hz : xs.length ≤ 1000000) (h : ∀ x ∈ xs, ∃ env1, tg x (wipeE env own) = some env1 ∧ ifs env1 = .ret (p x) ∧ (p x = true → elt env1 = .ret (f x))) :
    lcE own it tg ifs elt env = .ret (.lst ((xs.filter p).map f)) := by
  unfold lcE lcL
  rw [hi, M.ret_bind, if_pos (show sizeOk xs = true from decide_eq_true hz), lcLoop_ret h, nor_ret, M.ret_bind]
/-- .. over texts -/
theorem lcE_strs {own : List Nat} {it : SL} {tg : TgS} {ifs : ST} {elt : SE} {env : PEnv} {ss : List Str} {p : Str → Bool} {f : Str → D} (hi : it env = .ret (ss.map D.str)) (hz : ss.length ≤ 1000000) (h : ∀ s ∈ ss, ∃ env1, tg (.str s) (wipeE env own) = some env1 ∧ ifs env1 = .ret (p s) ∧ (p s = true → elt env1 = .ret (f s))) :
    lcE own it tg ifs elt env = .ret (.lst ((ss.filter p).map f)) := by
  have := lcE_ret (own := own) (tg := tg) (ifs := ifs) (elt := elt) (env := env) (xs := ss.map D.str) (p := fun d => match d with | .str s => p s | _ => false) (f := fun d => match d with | .str s => f s | d => d) hi (by simpa using hz) (fun x hx => by
    obtain ⟨s, hs, rfl⟩ := List.mem_map.mp hx
    exact h s hs)
  rw [this, List.filter_map, List.map_map]
  rfl
theorem toPyL_strs : ∀ ss : List Str, toPyL (ss.map D.str) = some (ss.map PyData.str)
  | [] => rfl
  | s :: r => by
    have := toPyL_strs r
    simp only [List.map_cons, toPyL, toPy, this]
def oks (ss : List Str) : Prop := ∀ s ∈ ss, PyData.strOk s = true
theorem canLay_strs : ∀ ss : List Str, oks ss → PyData.canLayAll0 (ss.map PyData.str) = true
  | [], _ => rfl
  | s :: r, h => by simp [PyData.canLayAll0, PyData.canLay0, h s (by simp), canLay_strs r fun y hy => h y (by simp [hy])]
theorem depth_strs : ∀ ss : List Str, PyData.depthAll (ss.map PyData.str) = 0
  | [] => rfl
  | _ :: r => by simp [PyData.depthAll, PyData.depth, depth_strs r]
theorem shaped_strsL (ss : List Str) (h : oks ss) : SeqAt.shaped (.list (ss.map PyData.str)) = true := by simp [SeqAt.shaped, PyData.canLay0, PyData.depth, canLay_strs ss h, depth_strs]
theorem shaped_strsT (ss : List Str) (h : oks ss) : SeqAt.shaped (.tuple (ss.map PyData.str)) = true := by simp [SeqAt.shaped, PyData.canLay0, PyData.depth, canLay_strs ss h, depth_strs]
theorem eqvAll_strs : ∀ xs ys : List Str, PyData.eqvAll (xs.map PyData.str) (ys.map PyData.str) = decide (xs = ys)
  | [], [] => rfl
  | [], _ :: _ => rfl
  | _ :: _, [] => rfl
  | x :: xs, y :: ys => by
    simp only [List.map_cons, PyData.eqvAll, PyData.eqv, eqvAll_strs xs ys, List.cons.injEq]
    by_cases h : x = y <;> by_cases h' : xs = ys <;> simp [h, h']
theorem eqD_strsL (xs ys : List Str) (hx : oks xs) (hy : oks ys) : eqD (.lst (xs.map D.str)) (.lst (ys.map D.str)) = some (.bl (decide (xs = ys))) := by
  unfold eqD eqSD eqPD eqP
  simp only [toPy, toPyL_strs, Option.map_some, shaped_strsL xs hx, shaped_strsL ys hy, Option.none_or, Bool.and_self, if_true, PyData.eqv, eqvAll_strs]
theorem neD_strsL (xs ys : List Str) (hx : oks xs) (hy : oks ys) : neD (.lst (xs.map D.str)) (.lst (ys.map D.str)) = some (.bl (!decide (xs = ys))) := by
  unfold neD neSD nePD eqP
  simp only [toPy, toPyL_strs, Option.map_some, shaped_strsL xs hx, shaped_strsL ys hy, Option.none_or, Bool.and_self, if_true, PyData.eqv, eqvAll_strs]
theorem eqD_strsT (xs ys : List Str) (hx : oks xs) (hy : oks ys) : eqD (.tup (xs.map D.str)) (.tup (ys.map D.str)) = some (.bl (decide (xs = ys))) := by
  unfold eqD eqSD eqPD eqP
  simp only [toPy, toPyL_strs, Option.map_some, shaped_strsT xs hx, shaped_strsT ys hy, Option.none_or, Bool.and_self, if_true, PyData.eqv, eqvAll_strs]
theorem eqD_str (x y : Str) (hx : PyData.strOk x = true) (hy : PyData.strOk y = true) : eqD (.str x) (.str y) = some (.bl (decide (x = y))) := rfl
theorem neD_str (x y : Str) (hx : PyData.strOk x = true) (hy : PyData.strOk y = true) : neD (.str x) (.str y) = some (.bl (!decide (x = y))) := rfl
theorem eqD_s (x y : Str) : eqD (.str x) (.str y) = some (.bl (decide (x = y))) := rfl
theorem neD_s (x y : Str) : neD (.str x) (.str y) = some (.bl (!decide (x = y))) := rfl
theorem eqD_bl (x y : Bool) : eqD (.bl x) (.bl y) = some (.bl (x == y)) := by
  unfold eqD eqSD eqPD eqP
  simp only [toPy, SeqAt.shaped, PyData.canLay0, PyData.depth, PyData.eqv]
  simp
theorem neD_bl (x y : Bool) : neD (.bl x) (.bl y) = some (.bl (!(x == y))) := by
  unfold neD neSD nePD eqP
  simp only [toPy, SeqAt.shaped, PyData.canLay0, PyData.depth, PyData.eqv]
  simp
theorem inD_str (x y : Str) : inD (.str x) (.str y) = some (.bl (hasSub x y)) := rfl
theorem flat_strs : ∀ ss : List Str, (ss.map D.str).all flatD = true
  | [] => rfl
  | _ :: r => by simp [flatD]
theorem any_strs (x : Str) : ∀ ss : List Str, ((ss.map D.str).any fun y => eqF y (.str x)) = decide (x ∈ ss)
  | [] => rfl
  | s :: r => by
    rw [List.map_cons, List.any_cons, any_strs x r]
    show (s == x || _) = _
    by_cases h : s = x
    · subst h; simp
    · have h2 : ¬ x = s := fun z => h z.symm
      simp [h, h2]
theorem inD_lst (x : Str) (ss : List Str) : inD (.str x) (.lst (ss.map D.str)) = some (.bl (decide (x ∈ ss))) := by
  have h : inF (.str x) (.lst (ss.map D.str)) = some (decide (x ∈ ss)) := by
    show (if (flatD (.str x) && (ss.map D.str).all flatD) = true then some ((ss.map D.str).any fun y => eqF y (.str x)) else none) = _
    rw [if_pos (by rw [flat_strs]; rfl), any_strs]
  unfold inD inAll inS
  rw [h]
  rfl
theorem inD_tup (x : Str) (ss : List Str) : inD (.str x) (.tup (ss.map D.str)) = some (.bl (decide (x ∈ ss))) := by
  have h : inF (.str x) (.tup (ss.map D.str)) = some (decide (x ∈ ss)) := by
    show (if (flatD (.str x) && (ss.map D.str).all flatD) = true then some ((ss.map D.str).any fun y => eqF y (.str x)) else none) = _
    rw [if_pos (by rw [flat_strs]; rfl), any_strs]
  unfold inD inAll inS
  rw [h]
  rfl
theorem ninD_lst (x : Str) (ss : List Str) : ninD (.str x) (.lst (ss.map D.str)) = some (.bl (!decide (x ∈ ss))) := by
  have h : inF (.str x) (.lst (ss.map D.str)) = some (decide (x ∈ ss)) := by
    show (if (flatD (.str x) && (ss.map D.str).all flatD) = true then some ((ss.map D.str).any fun y => eqF y (.str x)) else none) = _
    rw [if_pos (by rw [flat_strs]; rfl), any_strs]
  unfold ninD inAll inS
  rw [h]
  rfl
theorem allS_strs : ∀ ss : List Str, allS (ss.map D.str) = some ss
  | [] => rfl
  | s :: r => by
    have := allS_strs r
    simp only [List.map_cons, allS, this, Option.map_some]
theorem srtF_strs (ss : List Str) (h : ss.length < 64) : srtF [.lst (ss.map D.str)] = some (.lst ((sortS ss).map D.str)) := by
  show (allS (ss.map D.str)).bind (fun ks => if ks.length < 64 then some (D.lst ((sortS ks).map .str)) else none) = _
  rw [allS_strs, Option.bind_some, if_pos h]
theorem allB_map : ∀ ks : List Bool, allB (ks.map D.bl) = some ks
  | [] => rfl
  | k :: r => by
    have := allB_map r
    simp only [List.map_cons, allB, this, Option.map_some]
theorem lcE_range {own : List Nat} {it : SL} {tg : TgS} {ifs : ST} {elt : SE} {env : PEnv} {n : Nat} {p : Nat → Bool} {f : Nat → D} (hi : it env = .ret ((List.range n).map fun i => D.int (0 + (i : Nat)))) (hz : n ≤ 1000000) (h : ∀ i, i < n → ∃ env1, tg (.int (i : Nat)) (wipeE env own) = some env1 ∧ ifs env1 = .ret (p i) ∧ (p i = true → elt env1 = .ret (f i))) :
    lcE own it tg ifs elt env = .ret (.lst (((List.range n).filter p).map f)) := by
  have := lcE_ret (own := own) (tg := tg) (ifs := ifs) (elt := elt) (env := env) (xs := (List.range n).map fun i => D.int (0 + (i : Nat))) (p := fun d => match d with | .int i => p i.toNat | _ => false) (f := fun d => match d with | .int i => f i.toNat | d => d) hi (by simpa using hz) (fun x hx => by
    obtain ⟨i, hi, rfl⟩ := List.mem_map.mp hx
    have hn := List.mem_range.mp hi
    have e : (0 : Int) + (i : Nat) = (i : Nat) := by omega
    obtain ⟨env1, h1, h2, h3⟩ := h i hn
    refine ⟨env1, by rw [e]; exact h1, ?_, fun hp => ?_⟩
    · show _ = M.ret (p ((0 : Int) + (i : Nat)).toNat)
      rw [e, Int.toNat_natCast]; exact h2
    · show _ = M.ret (f ((0 : Int) + (i : Nat)).toNat)
      rw [e, Int.toNat_natCast]
      refine h3 ?_
      have hp : p ((0 : Int) + (i : Nat)).toNat = true := hp
      rw [e, Int.toNat_natCast] at hp
      exact hp)
  rw [this, List.filter_map, List.map_map]
  refine congrArg (fun l => M.ret (D.lst l)) ?_
  have e : ∀ i : Nat, ((0 : Int) + (i : Nat)).toNat = i := fun i => by omega
  have e1 : ((fun d : D => match d with | .int i => p i.toNat | _ => false) ∘ fun i : Nat => D.int (0 + (i : Nat))) = p := funext fun i => by
    show p ((0 : Int) + (i : Nat)).toNat = p i
    rw [e]
  have e2 : ((fun d : D => match d with | .int i => f i.toNat | d => d) ∘ fun i : Nat => D.int (0 + (i : Nat))) = f := funext fun i => by
    show f ((0 : Int) + (i : Nat)).toNat = f i
    rw [e]
  rw [e1, e2]
theorem rng1_ret {L : SL} {env : PEnv} {n : Nat} (h : L env = .ret [.int (n : Nat)]) (hn : n ≤ 1000000) : rng1I L env = .ret ((List.range n).map fun i => D.int (0 + (i : Nat))) := by
  unfold rng1I
  rw [h]
  rw [M.ret_bind]
  dsimp only
  have e : small62 (n : Int) = true := by
    unfold small62
    rw [Bool.and_eq_true, decide_eq_true_iff, decide_eq_true_iff]
    have h1 : (0 : Int) ≤ (n : Int) := Int.natCast_nonneg n
    have h2 : (n : Int) ≤ 1000000 := by omega
    exact ⟨Int.le_trans (by decide) h1, Int.lt_of_le_of_lt h2 (by decide)⟩
  rw [if_pos e, Int.toNat_natCast]
theorem atI_at {α : Type} {xs : List α} {i : Nat} (h : i < xs.length) : L2.atI xs (i : Int) = some xs[i] := L2.atI_nat (List.getElem?_eq_getElem h)
theorem ixD_lst {ss : List Str} {i : Nat} (h : i < ss.length) : ixD (.lst (ss.map D.str)) (.int (i : Nat)) = some (.str ss[i]) := by
  unfold ixD ixS ixL
  show (none : Option D).or ((L2.atI (ss.map D.str) (i : Int)).or _) = _
  rw [atI_at (by simpa using h)]
  simp
theorem slD_pre {ss : List Str} {i : Nat} (h : i ≤ ss.length) : slD (.lst (ss.map D.str)) none (some (i : Nat)) = some (.lst ((ss.take i).map D.str)) := by
  show some (D.lst (cutD (ss.map D.str) none (some (i : Nat)))) = _
  unfold cutD
  rw [HT.sIx_none, HT.sIx_nat, List.drop_zero, List.length_map, Nat.min_eq_left h, Nat.sub_zero, List.map_take]
end DL
namespace DL
open PySem
theorem forLoop_fold {α : Type} {tg : TgS} {body : SS} {R : PEnv → α → Prop} {step : α → D → α} : ∀ {xs : List D} {env : PEnv} {a : α}, R env a → (∀ x ∈ xs, ∀ env a, R env a → ∃ env1 env2, tg x env = some env1 ∧ body env1 = .ret (.nx, env2) ∧ R env2 (step a x)) →
    ∃ env', forLoop tg body xs env = .ret (.nx, env') ∧ R env' (xs.foldl step a)
  | [], env, a, h, _ => ⟨env, rfl, h⟩
  | x :: xs, env, a, h, hs => by
    obtain ⟨env1, env2, h1, h2, h3⟩ := hs x List.mem_cons_self env a h
    obtain ⟨env', h4, h5⟩ := forLoop_fold (xs := xs) h3 fun y hy => hs y (List.mem_cons_of_mem _ hy)
    refine ⟨env', ?_, h5⟩
    unfold forLoop
    rw [h1, M.some_bind, h2, M.ret_bind]
    exact h4
theorem forS_ret {it : SL} {tg : TgS} {body : SS} {env : PEnv} {xs : List D} (h : it env = .ret xs) : forS it tg body env = forLoop tg body xs env := by
  unfold forS
  rw [h, M.ret_bind]
theorem rng2_ret {L : SL} {env : PEnv} {n : Nat} (h : L env = .ret [.int 1, .int (n : Nat)]) (hn : n ≤ 1000000) : rng2I L env = .ret ((List.range (n - 1)).map fun i => D.int (1 + (i : Nat))) := by
  unfold rng2I
  rw [h, M.ret_bind]
  dsimp only
  have e : small62 (n : Int) = true := by
    unfold small62
    rw [Bool.and_eq_true, decide_eq_true_iff, decide_eq_true_iff]
    have h1 : (0 : Int) ≤ (n : Int) := Int.natCast_nonneg n
    have h2 : (n : Int) ≤ 1000000 := by omega
    exact ⟨Int.le_trans (by decide) h1, Int.lt_of_le_of_lt h2 (by decide)⟩
  have e1 : small62 1 = true := by decide
  have e2 : ((n : Int) - 1).toNat = n - 1 := by omega
  rw [e, e1, if_pos (show (true && true) = true from rfl), e2]
theorem callE_ret {m : Nat} {F : Fn} {L : SL} {env : PEnv} {ds : List D} (h : L env = .ret ds) (hl : ds.length = m) : callE m F L env = F ds := by
  unfold callE lenL
  rw [h, M.ret_bind, if_pos hl]
theorem brwT_ret {i : Nat} {T : ST} {env : PEnv} {l : List D} (h : env[i]? = some (.own (.lst l))) : brwT i T env = T (env.set i (.val (.lst l))) := by
  unfold brwT
  rw [h]
theorem appS_ret {i : Nat} {F : SE} {env : PEnv} {l : List D} {d : D} (h : env[i]? = some (.own (.lst l))) (h2 : F env = .ret d) (hz : l.length ≤ 1000000) : appS i F env = .ret (.nx, env.set i (.own (.lst (l ++ [d])))) := by
  unfold appS
  rw [h]
  dsimp only
  rw [h2, M.ret_bind, if_pos (show sizeOk l = true from decide_eq_true hz)]
theorem slD_str {z : Str} {lo hi : Option Int} (h : z.length ≤ 1000000) : slD (.str z) lo hi = some (.str (L2.cutS z lo hi)) := by
  unfold slD
  dsimp only
  rw [if_pos h]
theorem forLoop_foldN {α : Type} {tg : TgS} {body : SS} {R : Nat → PEnv → α → Prop} {step : α → D → α} : ∀ {xs : List D} {k : Nat} {env : PEnv} {a : α}, R k env a → (∀ i x, k ≤ i → i < k + xs.length → x ∈ xs → ∀ env a, R i env a → ∃ env1 env2, tg x env = some env1 ∧ body env1 = .ret (.nx, env2) ∧ R (i + 1) env2 (step a x)) →
    ∃ env', forLoop tg body xs env = .ret (.nx, env') ∧ R (k + xs.length) env' (xs.foldl step a)
  | [], k, env, a, h, _ => ⟨env, rfl, h⟩
  | x :: xs, k, env, a, h, hs => by
    obtain ⟨env1, env2, h1, h2, h3⟩ := hs k x (Nat.le_refl _) (by simp) List.mem_cons_self env a h
    obtain ⟨env', h4, h5⟩ := forLoop_foldN (xs := xs) (k := k + 1) h3 fun i y hi hl hy => hs i y (by omega) (by simp; omega) (List.mem_cons_of_mem _ hy)
    refine ⟨env', ?_, by
      have e : k + 1 + xs.length = k + (x :: xs).length := by simp; omega
      rw [← e]; exact h5⟩
    unfold forLoop
    rw [h1, M.some_bind, h2, M.ret_bind]
    exact h4
end DL

set_option Elab.async false
set_option linter.all false
set_option maxRecDepth 100000
set_option maxHeartbeats 4000000
/-! k00: what the defs give on texts. -/
namespace K00
open PySem DL
abbrev S (ws : List Str) : D := .lst (ws.map D.str)
theorem lst_nil : D.lst [] = S [] := rfl
theorem endD_rt {d : D} {e : PEnv} : endD (Fl.rt d, e) = .ret d := rfl
theorem oks_filter {ws : List Str} {p : Str → Bool} (h : oks ws) : oks (ws.filter p) := fun s hs => h s (List.mem_filter.mp hs).1
theorem oks_nil : oks [] := fun s h => by cases h
def holdsP (ws : List Str) (t : Str) : Bool := ws.any fun w => hasSub w t
theorem filter_nil {α : Type} (p : α → Bool) : ∀ l : List α, (!decide (l.filter p = [])) = l.any p
  | [] => rfl
  | x :: r => by
    cases h : p x with
    | true => simp [h]
    | false => rw [List.filter_cons_of_neg (by simp [h]), List.any_cons, h, Bool.false_or, filter_nil p r]
theorem F_holds {ws : List Str} {t : Str} (hz : ws.length ≤ 1000000) (hk : oks ws) : F__law_holds [S ws, .str t] = .ret (.bl (holdsP ws t)) := by
  have h1 : lcE [2] (seqI (varE 0)) (nameG 2) (boolT (opE inD (varE 2) (varE 1))) (varE 2) [.val (S ws), .val (.str t), .no] = .ret (S (ws.filter fun w => hasSub w t)) :=
    lcE_strs rfl hz fun s hs => ⟨[.val (S ws), .val (.str t), .val (.str s)], rfl, rfl, fun _ => rfl⟩
  refine ret_end.trans ((opE_ret h1 rfl).trans ?_)
  show M.ofO (neD (S (ws.filter fun w => hasSub w t)) (S [])) = _
  rw [neD_strsL _ _ (oks_filter hk) oks_nil, filter_nil]
  rfl
def noOther (some : List Str) (w : Str) : Bool := decide (some.filter (fun o => !decide (o = w) && hasSub o w) = [])
/-- those that did not come ahead -/
def dedupP (some : List Str) : List Nat := (List.range some.length).filter fun i => !decide (some[i]?.getD "" ∈ some.take i)
def someP (ws : List Str) : List Str := (dedupP (sortS ws)).map fun i => (sortS ws)[i]?.getD ""
def leastP (ws : List Str) : List Str := (someP ws).filter (noOther (someP ws))
theorem sortS_len (ws : List Str) : (sortS ws).length = ws.length := (sortS_perm ws).length_eq
theorem sortS_oks {ws : List Str} (h : oks ws) : oks (sortS ws) := fun s hs => h s ((sortS_perm ws).mem_iff.mp hs)
theorem getq {ss : List Str} {i : Nat} (h : i < ss.length) : ss[i]?.getD "" = ss[i] := by rw [List.getElem?_eq_getElem h]; rfl
theorem someP_oks {ws : List Str} (h : oks ws) : oks (someP ws) := fun s hs => by
  obtain ⟨i, hi, rfl⟩ := List.mem_map.mp hs
  have hl := List.mem_range.mp (List.mem_filter.mp hi).1
  show PyData.strOk ((sortS ws)[i]?.getD "") = true
  rw [getq hl]
  exact sortS_oks h _ (List.getElem_mem hl)
theorem someP_len (ws : List Str) : (someP ws).length ≤ ws.length := by
  unfold someP dedupP
  rw [List.length_map]
  exact Nat.le_trans (List.length_filter_le _ _) (by rw [List.length_range, sortS_len]; exact Nat.le_refl _)
theorem F_least_w {ws : List Str} (hz : ws.length < 64) (hk : oks ws) : F__law_least_words [S ws] = .ret (S (leastP ws)) := by
  have h1 : lcE [3] (seqI (varE 0)) (nameG 3) yesT (cbE strF (consL (varE 3) nilL)) [.val (S ws), .no, .no, .no, .no] = .ret (S (ws.filter fun _ => true)) :=
    lcE_strs rfl (by omega) fun s hs => ⟨[.val (S ws), .no, .no, .val (.str s), .no], rfl, rfl, fun _ => rfl⟩
  rw [List.filter_eq_self.mpr (fun _ _ => rfl)] at h1
  have h2 : cbE srtF (consL (lcE [3] (seqI (varE 0)) (nameG 3) yesT (cbE strF (consL (varE 3) nilL))) nilL) [.val (S ws), .no, .no, .no, .no] = .ret (S (sortS ws)) := by
    rw [cbE_ret (consL_ret h1 rfl), srtF_strs ws hz]
    rfl
  have h3 : lcE [2] (rng1I (consL (cbE lenF (consL (varE 1) nilL)) nilL)) (nameG 2) (boolT (opE ninD (opE ixD (varE 1) (varE 2)) (slE (varE 1) noO (someO (varE 2))))) (opE ixD (varE 1) (varE 2)) [.val (S ws), .val (S (sortS ws)), .no, .no, .no] = .ret (S (someP ws)) := by
    have := lcE_range (own := [2]) (it := rng1I (consL (cbE lenF (consL (varE 1) nilL)) nilL)) (tg := nameG 2) (ifs := boolT (opE ninD (opE ixD (varE 1) (varE 2)) (slE (varE 1) noO (someO (varE 2))))) (elt := opE ixD (varE 1) (varE 2)) (env := [.val (S ws), .val (S (sortS ws)), .no, .no, .no]) (n := (sortS ws).length) (p := fun i => !decide ((sortS ws)[i]?.getD "" ∈ (sortS ws).take i)) (f := fun i => .str ((sortS ws)[i]?.getD "")) (rng1_ret (by
      show (M.ofO (lenF [.lst ((sortS ws).map D.str)])).bind _ = _
      show M.ret [D.int ((List.map D.str (sortS ws)).length : Nat)] = _
      rw [List.length_map]) (by rw [sortS_len]; omega)) (by rw [sortS_len]; omega) (fun i hi => by
      refine ⟨[.val (S ws), .val (S (sortS ws)), .val (.int (i : Nat)), .no, .no], rfl, ?_, fun _ => ?_⟩
      · refine boolT_ret ?_
        have e1 : opE ixD (varE 1) (varE 2) [.val (S ws), .val (S (sortS ws)), .val (.int (i : Nat)), .no, .no] = .ret (.str ((sortS ws)[i]?.getD "")) := by
          refine (opE_ret rfl rfl).trans ?_
          rw [ixD_lst hi, getq hi]
          rfl
        have e2 : slE (varE 1) noO (someO (varE 2)) [.val (S ws), .val (S (sortS ws)), .val (.int (i : Nat)), .no, .no] = .ret (S ((sortS ws).take i)) := by
          show M.ofO (slD (S (sortS ws)) none (some (i : Nat))) = _
          rw [slD_pre (Nat.le_of_lt hi)]
          rfl
        rw [opE_ret e1 e2, ninD_lst]
        rfl
      · refine (opE_ret rfl rfl).trans ?_
        rw [ixD_lst hi, getq hi]
        rfl)
    rw [this]
    unfold S someP dedupP
    rw [List.map_map]
    rfl
  have h4 : lcE [3] (seqI (varE 1)) (nameG 3) (boolT (opE eqD (lcE [4] (seqI (varE 1)) (nameG 4) (andT (boolT (opE neD (varE 4) (varE 3))) (boolT (opE inD (varE 4) (varE 3)))) (varE 4)) (lstE nilL))) (varE 3) [.val (S ws), .val (S (someP ws)), .no, .no, .no] = .ret (S (leastP ws)) := by
    have hl := someP_len ws
    have ho := someP_oks hk
    refine lcE_strs (p := noOther (someP ws)) (f := D.str) rfl (by omega) fun s hs => ⟨[.val (S ws), .val (S (someP ws)), .no, .val (.str s), .no], rfl, boolT_ret ?_, fun _ => rfl⟩
    have e1 : lcE [4] (seqI (varE 1)) (nameG 4) (andT (boolT (opE neD (varE 4) (varE 3))) (boolT (opE inD (varE 4) (varE 3)))) (varE 4) [.val (S ws), .val (S (someP ws)), .no, .val (.str s), .no] = .ret (S ((someP ws).filter fun o => !decide (o = s) && hasSub o s)) :=
      lcE_strs rfl (by omega) fun o h => ⟨[.val (S ws), .val (S (someP ws)), .no, .val (.str s), .val (.str o)], rfl, andT_ret (boolT_ret (by
        refine (opE_ret rfl rfl).trans ?_
        rw [neD_str _ _ (ho o h) (ho s hs)]
        rfl)) (boolT_ret rfl), fun _ => rfl⟩
    rw [opE_ret e1 rfl]
    show M.ofO (eqD (S _) (S [])) = _
    rw [eqD_strsL _ _ (oks_filter ho) oks_nil]
    rfl
  show (B__law_least_words [.val (S ws), .no, .no, .no, .no]).bind endD = _
  unfold B__law_least_words
  rw [seqS_nx (asgS_name h2)]
  show (seqS (asgS (nameG 1) _) _ [.val (S ws), .val (S (sortS ws)), .no, .no, .no]).bind endD = _
  rw [seqS_nx (asgS_name h3)]
  show (retS _ [.val (S ws), .val (S (someP ws)), .no, .no, .no]).bind endD = _
  rw [ret_end, h4]
def pre (w : Str) (k : Nat) : Str := L2.cutS w none (some ((1 : Int) + (k : Nat)))
def addEnd (ws : List Str) (w : Str) (f : List Str) (k : Nat) : List Str := if (!decide (pre w k ∈ f) && !holdsP ws (pre w k)) = true then f ++ [pre w k] else f
def foundP (ws : List Str) : List Str := ws.foldl (fun f w => (List.range (w.length - 1)).foldl (addEnd ws w) f) [""]
def endsP (ws : List Str) : List Str := sortS (foundP ws)
def small (ws : List Str) : Prop := ws.length ≤ 6 ∧ ∀ w ∈ ws, w.length ≤ 6
theorem small.z {ws : List Str} (h : small ws) : ws.length ≤ 1000000 := Nat.le_trans h.1 (by omega)
theorem addEnd_len (ws : List Str) (w : Str) (f : List Str) (k : Nat) : (addEnd ws w f k).length ≤ f.length + 1 := by
  unfold addEnd
  split
  · simp
  · omega
theorem fold_len {α : Type} {step : List Str → α → List Str} (h : ∀ f a, (step f a).length ≤ f.length + 1) : ∀ (l : List α) (f : List Str), (l.foldl step f).length ≤ f.length + l.length
  | [], f => by simp
  | a :: r, f => by
    have := fold_len h r (step f a)
    have := h f a
    simp only [List.foldl_cons, List.length_cons]
    omega
theorem foundP_len {ws : List Str} (h : small ws) : (foundP ws).length ≤ 31 := by
  have key : ∀ (l : List Str) (f : List Str), (∀ w ∈ l, w.length ≤ 6) → (l.foldl (fun f w => (List.range (w.length - 1)).foldl (addEnd ws w) f) f).length ≤ f.length + 5 * l.length := by
    intro l
    induction l with
    | nil => intro f _; simp
    | cons w r ih =>
      intro f hw
      have h1 := ih ((List.range (w.length - 1)).foldl (addEnd ws w) f) fun x hx => hw x (by simp [hx])
      have h2 := fold_len (addEnd_len ws w) (List.range (w.length - 1)) f
      have h3 := hw w (by simp)
      rw [List.length_range] at h2
      simp only [List.foldl_cons, List.length_cons]
      omega
  have := key ws [""] h.2
  have h1 := h.1
  unfold foundP
  simp only [List.length_singleton] at this
  omega
theorem ends_turn {ws f : List Str} {w : Str} {k : Nat} {s4 : Slot} (hs : small ws) (hk : oks ws) (hw : w.length ≤ 6) (hf : f.length ≤ 1000) :
    ∃ env2, ifS (brwT 1 (andT (boolT (opE ninD (slE (varE 2) noO (someO (varE 3))) (varE 1))) (notT (boolT (callE 2 F__law_holds (consL (varE 0) (consL (slE (varE 2) noO (someO (varE 3))) nilL))))))) (appS 1 (slE (varE 2) noO (someO (varE 3)))) skipS [.val (S ws), .own (S f), .val (.str w), .val (.int (1 + (k : Nat))), s4] = .ret (.nx, env2) ∧ env2 = [.val (S ws), .own (S (addEnd ws w f k)), .val (.str w), .val (.int (1 + (k : Nat))), s4] := by
  have hsl : slD (.str w) none (some (1 + (k : Nat))) = some (.str (pre w k)) := slD_str (by omega)
  have e1 : ∀ s, slE (varE 2) noO (someO (varE 3)) [.val (S ws), s, .val (.str w), .val (.int (1 + (k : Nat))), s4] = .ret (.str (pre w k)) := fun s => by
    show M.ofO (slD (.str w) none (some (1 + (k : Nat)))) = _
    rw [hsl]
    rfl
  have et : brwT 1 (andT (boolT (opE ninD (slE (varE 2) noO (someO (varE 3))) (varE 1))) (notT (boolT (callE 2 F__law_holds (consL (varE 0) (consL (slE (varE 2) noO (someO (varE 3))) nilL)))))) [.val (S ws), .own (S f), .val (.str w), .val (.int (1 + (k : Nat))), s4] = .ret (!decide (pre w k ∈ f) && !holdsP ws (pre w k)) := by
    rw [brwT_ret rfl]
    refine andT_ret (boolT_ret ?_) (notT_ret (boolT_ret ?_))
    · refine (opE_ret (e1 _) rfl).trans ?_
      rw [ninD_lst]
      rfl
    · have ea : consL (varE 0) (consL (slE (varE 2) noO (someO (varE 3))) nilL) ([Slot.val (S ws), .own (S f), .val (.str w), .val (.int (1 + (k : Nat))), s4].set 1 (.val (S f))) = .ret [S ws, .str (pre w k)] := by
        refine consL_ret rfl (consL_ret (e1 _) ?_)
        rfl
      exact (callE_ret ea rfl).trans (F_holds hs.z hk)
  rw [ifS_ret et]
  unfold addEnd
  by_cases c : (!decide (pre w k ∈ f) && !holdsP ws (pre w k)) = true
  · rw [if_pos c, if_pos c, appS_ret rfl (e1 _) (by simp; omega)]
    refine ⟨_, rfl, ?_⟩
    show [Slot.val (S ws), .own (.lst (f.map D.str ++ [.str (pre w k)])), _, _, _] = _
    rw [show f.map D.str ++ [D.str (pre w k)] = (f ++ [pre w k]).map D.str from by simp]
  · rw [if_neg c, if_neg c]
    exact ⟨_, rfl, rfl⟩
theorem F_ends_w {ws : List Str} (hs : small ws) (hk : oks ws) : F__law_ends [S ws] = .ret (S (endsP ws)) := by
  have inner : ∀ (w : Str) (f : List Str) (s3 s4 : Slot), w ∈ ws → f.length ≤ 100 → ∃ s3', forS (rng2I (consL (conE (.int 1)) (consL (cbE lenF (consL (varE 2) nilL)) nilL))) (nameG 3) (ifS (brwT 1 (andT (boolT (opE ninD (slE (varE 2) noO (someO (varE 3))) (varE 1))) (notT (boolT (callE 2 F__law_holds (consL (varE 0) (consL (slE (varE 2) noO (someO (varE 3))) nilL))))))) (appS 1 (slE (varE 2) noO (someO (varE 3)))) skipS) [.val (S ws), .own (S f), .val (.str w), s3, s4] = .ret (.nx, [.val (S ws), .own (S ((List.range (w.length - 1)).foldl (addEnd ws w) f)), .val (.str w), s3', s4]) := by
    intro w f s3 s4 hw hf
    have hw6 := hs.2 w hw
    have hr : rng2I (consL (conE (.int 1)) (consL (cbE lenF (consL (varE 2) nilL)) nilL)) [.val (S ws), .own (S f), .val (.str w), s3, s4] = .ret ((List.range (w.length - 1)).map fun i => D.int (1 + (i : Nat))) := by
      refine rng2_ret ?_ (by omega)
      refine consL_ret rfl (consL_ret (x := .int (w.length : Nat)) ?_ rfl)
      refine (cbE_ret (consL_ret rfl rfl)).trans ?_
      show M.ofO (if w.length ≤ 1000000 then some (D.int w.length) else none) = _
      rw [if_pos (by omega)]
      rfl
    rw [forS_ret hr]
    obtain ⟨env', h1, s3', h2, h3⟩ := forLoop_foldN (tg := nameG 3) (k := 0) (a := f) (R := fun i env g => ∃ s3, env = [.val (S ws), .own (S g), .val (.str w), s3, s4] ∧ g.length ≤ 100 + i) (step := fun g d => match d with | .int i => addEnd ws w g (i - 1).toNat | _ => g) (body := ifS (brwT 1 (andT (boolT (opE ninD (slE (varE 2) noO (someO (varE 3))) (varE 1))) (notT (boolT (callE 2 F__law_holds (consL (varE 0) (consL (slE (varE 2) noO (someO (varE 3))) nilL))))))) (appS 1 (slE (varE 2) noO (someO (varE 3)))) skipS) (xs := (List.range (w.length - 1)).map fun i => D.int (1 + (i : Nat))) ⟨s3, rfl, by omega⟩ (fun i x _ hi hx env g ⟨t3, e, hg⟩ => by
      obtain ⟨k, hk', rfl⟩ := List.mem_map.mp hx
      subst e
      rw [List.length_map, List.length_range] at hi
      obtain ⟨env2, g1, g2⟩ := ends_turn (s4 := s4) (k := k) hs hk hw6 (f := g) (by omega)
      have ek : ((1 : Int) + (k : Nat) - 1).toNat = k := by omega
      refine ⟨_, env2, rfl, g1, .val (.int (1 + (k : Nat))), ?_, ?_⟩
      · rw [g2]
        show _ = [Slot.val (S ws), .own (S (addEnd ws w g ((1 : Int) + (k : Nat) - 1).toNat)), _, _, _]
        rw [ek]
      · show (addEnd ws w g ((1 : Int) + (k : Nat) - 1).toNat).length ≤ _
        rw [ek]
        have := addEnd_len ws w g k
        omega)
    refine ⟨s3', ?_⟩
    rw [h1, h2, List.foldl_map]
    have e : (fun (g : List Str) (k : Nat) => addEnd ws w g ((1 : Int) + (k : Nat) - 1).toNat) = addEnd ws w := funext fun g => funext fun k => by
      have ek : ((1 : Int) + (k : Nat) - 1).toNat = k := by omega
      rw [ek]
    show M.ret (Fl.nx, [Slot.val (S ws), .own (S ((List.range (w.length - 1)).foldl (fun (g : List Str) (k : Nat) => addEnd ws w g ((1 : Int) + (k : Nat) - 1).toNat) f)), _, _, _]) = _
    rw [e]
  obtain ⟨env', h1, ⟨s2', s3', s4', h2, h3⟩⟩ := forLoop_foldN (tg := nameG 2) (k := 0) (a := [("" : Str)]) (R := fun i env g => ∃ s2 s3 s4, env = [.val (S ws), .own (S g), s2, s3, s4] ∧ g.length ≤ 1 + 5 * i) (step := fun g d => match d with | .str w => (List.range (w.length - 1)).foldl (addEnd ws w) g | _ => g) (body := forS (rng2I (consL (conE (.int 1)) (consL (cbE lenF (consL (varE 2) nilL)) nilL))) (nameG 3) (ifS (brwT 1 (andT (boolT (opE ninD (slE (varE 2) noO (someO (varE 3))) (varE 1))) (notT (boolT (callE 2 F__law_holds (consL (varE 0) (consL (slE (varE 2) noO (someO (varE 3))) nilL))))))) (appS 1 (slE (varE 2) noO (someO (varE 3)))) skipS)) (xs := ws.map D.str) (env := [.val (S ws), .own (S [("" : Str)]), .no, .no, .no]) ⟨.no, .no, .no, rfl, by simp⟩ (fun i x _ hi hx env g ⟨t2, t3, t4, e, hg⟩ => by
      obtain ⟨w, hw, rfl⟩ := List.mem_map.mp hx
      subst e
      rw [List.length_map] at hi
      have h6 := hs.1
      obtain ⟨s3', g1⟩ := inner w g t3 t4 hw (by omega)
      refine ⟨_, _, rfl, g1, _, _, _, rfl, ?_⟩
      have := fold_len (addEnd_len ws w) (List.range (w.length - 1)) g
      have := hs.2 w hw
      show ((List.range (w.length - 1)).foldl (addEnd ws w) g).length ≤ _
      rw [List.length_range] at *
      omega)
  have ef : (ws.map D.str).foldl (fun (g : List Str) d => match d with | .str w => (List.range (w.length - 1)).foldl (addEnd ws w) g | _ => g) [("" : Str)] = foundP ws := by
    rw [List.foldl_map]
    rfl
  rw [ef] at h2
  have h4 : lcE [4] (seqI (varE 1)) (nameG 4) yesT (cbE strF (consL (varE 4) nilL)) [.val (S ws), .val (S (foundP ws)), s2', s3', s4'] = .ret (S ((foundP ws).filter fun _ => true)) :=
    lcE_strs rfl (by have := foundP_len hs; omega) fun s h => ⟨[.val (S ws), .val (S (foundP ws)), s2', s3', .val (.str s)], rfl, rfl, fun _ => rfl⟩
  rw [List.filter_eq_self.mpr (fun _ _ => rfl)] at h4
  show (B__law_ends [.val (S ws), .no, .no, .no, .no]).bind endD = _
  unfold B__law_ends
  rw [seqS_nx (env' := [.val (S ws), .own (S [("" : Str)]), .no, .no, .no]) rfl]
  have hf : forS (seqI (varE 0)) (nameG 2) (forS (rng2I (consL (conE (.int 1)) (consL (cbE lenF (consL (varE 2) nilL)) nilL))) (nameG 3) (ifS (brwT 1 (andT (boolT (opE ninD (slE (varE 2) noO (someO (varE 3))) (varE 1))) (notT (boolT (callE 2 F__law_holds (consL (varE 0) (consL (slE (varE 2) noO (someO (varE 3))) nilL))))))) (appS 1 (slE (varE 2) noO (someO (varE 3)))) skipS)) [.val (S ws), .own (S [("" : Str)]), .no, .no, .no] = .ret (.nx, [.val (S ws), .own (S (foundP ws)), s2', s3', s4']) := by
    rw [forS_ret (xs := ws.map D.str) rfl, h1, h2]
  rw [seqS_nx hf]
  show (retS _ [.val (S ws), .val (S (foundP ws)), s2', s3', s4']).bind endD = _
  rw [ret_end, cbE_ret (consL_ret h4 rfl), srtF_strs _ (by have := foundP_len hs; omega)]
  rfl
def suf (t : Str) (i : Nat) : Str := L2.cutS t (some ((i : Nat) : Int)) none
def sufs (es : List Str) (t : Str) : List Str := ((List.range (t.length + 1)).filter fun i => decide (suf t i ∈ es)).map (suf t)
def endP (es : List Str) (t : Str) : Str := (sufs es t).headD ""
theorem insS_mem {x y : Str} {l : List Str} : y ∈ sortS l ↔ y ∈ l := (sortS_perm l).mem_iff
theorem found_nil (ws : List Str) : ("" : Str) ∈ foundP ws := by
  have h1 : ∀ (w : Str) (l : List Nat) (f : List Str), ("" : Str) ∈ f → ("" : Str) ∈ l.foldl (addEnd ws w) f := by
    intro w l
    induction l with
    | nil => intro f h; exact h
    | cons k r ih =>
      intro f h
      refine ih _ ?_
      unfold addEnd
      split
      · exact List.mem_append_left _ h
      · exact h
  have h2 : ∀ (l : List Str) (f : List Str), ("" : Str) ∈ f → ("" : Str) ∈ l.foldl (fun f w => (List.range (w.length - 1)).foldl (addEnd ws w) f) f := by
    intro l
    induction l with
    | nil => intro f h; exact h
    | cons w r ih => intro f h; exact ih _ (h1 w _ f h)
  exact h2 ws [""] (by simp)
theorem suf_all {t : Str} : suf t t.length = "" := by
  unfold suf L2.cutS
  rw [HT.sIx_nat, Nat.min_self, List.drop_eq_nil_of_le (by show t.cps.toList.length ≤ t.cps.size; simp), List.take_nil]
  rfl
theorem sufs_ne (ws : List Str) (t : Str) : sufs (endsP ws) t ≠ [] := by
  intro h
  have hm : suf t t.length ∈ sufs (endsP ws) t := by
    unfold sufs
    refine List.mem_map.mpr ⟨t.length, List.mem_filter.mpr ⟨List.mem_range.mpr (by omega), ?_⟩, rfl⟩
    rw [suf_all]
    exact decide_eq_true (insS_mem (x := "").mpr (found_nil ws))
  rw [h] at hm
  cases hm
theorem F_end_w {ws : List Str} {t : Str} (hs : small ws) (hk : oks ws) (ht : t.length ≤ 100000) : F__law_end [S ws, .str t] = .ret (.str (endP (endsP ws) t)) := by
  have h1 : callE 1 F__law_ends (consL (varE 0) nilL) [.val (S ws), .val (.str t), .no, .no] = .ret (S (endsP ws)) := (callE_ret (consL_ret rfl rfl) rfl).trans (F_ends_w hs hk)
  have e1 : ∀ i : Nat, slE (varE 1) (someO (varE 3)) noO [.val (S ws), .val (.str t), .val (S (endsP ws)), .val (.int (i : Nat))] = .ret (.str (suf t i)) := fun i => by
    show M.ofO (slD (.str t) (some (i : Nat)) none) = _
    rw [slD_str (by omega)]
    rfl
  have h2 : lcE [3] (rng1I (consL (opE addD (cbE lenF (consL (varE 1) nilL)) (conE (.int 1))) nilL)) (nameG 3) (boolT (opE inD (slE (varE 1) (someO (varE 3)) noO) (varE 2))) (slE (varE 1) (someO (varE 3)) noO) [.val (S ws), .val (.str t), .val (S (endsP ws)), .no] = .ret (S (sufs (endsP ws) t)) := by
    have := lcE_range (own := [3]) (it := rng1I (consL (opE addD (cbE lenF (consL (varE 1) nilL)) (conE (.int 1))) nilL)) (tg := nameG 3) (ifs := boolT (opE inD (slE (varE 1) (someO (varE 3)) noO) (varE 2))) (elt := slE (varE 1) (someO (varE 3)) noO) (env := [.val (S ws), .val (.str t), .val (S (endsP ws)), .no]) (n := t.length + 1) (p := fun i => decide (suf t i ∈ endsP ws)) (f := fun i => .str (suf t i)) (rng1_ret (by
      refine consL_ret (x := .int ((t.length + 1 : Nat))) ?_ rfl
      refine (opE_ret (x := .int (t.length : Nat)) (y := .int 1) ?_ rfl).trans ?_
      · refine (cbE_ret (consL_ret rfl rfl)).trans ?_
        show M.ofO (if t.length ≤ 1000000 then some (D.int t.length) else none) = _
        rw [if_pos (by omega)]
        rfl
      · rfl) (by omega)) (by omega) (fun i hi => ⟨[.val (S ws), .val (.str t), .val (S (endsP ws)), .val (.int (i : Nat))], rfl, boolT_ret (by
        refine (opE_ret (e1 i) rfl).trans ?_
        rw [inD_lst]
        rfl), fun _ => e1 i⟩)
    rw [this]
    unfold S sufs
    rw [List.map_map]
    rfl
  show (B__law_end [.val (S ws), .val (.str t), .no, .no]).bind endD = _
  unfold B__law_end
  rw [seqS_nx (asgS_name h1)]
  show (retS _ [.val (S ws), .val (.str t), .val (S (endsP ws)), .no]).bind endD = _
  rw [ret_end, opE_ret h2 rfl]
  have hne := sufs_ne ws t
  unfold endP
  cases h : sufs (endsP ws) t with
  | nil => exact absurd h hne
  | cons x r =>
    show M.ofO (ixD (S (x :: r)) (.int (0 : Nat))) = _
    rw [ixD_lst (ss := x :: r) (i := 0) (by simp)]
    rfl
def chars (t : Str) : List Str := t.cps.toList.map fun c => ⟨#[c]⟩
def isText (t sg : Str) : Bool := (chars t).all fun s => hasSub s sg
theorem signs_chars (t : Str) : DL.signs t = (chars t).map D.str := by
  unfold DL.signs chars
  rw [List.map_map]
  rfl
theorem chars_len (t : Str) : (chars t).length = t.length := by
  unfold chars
  rw [List.length_map]
  rfl
theorem F_is_text_str {t sg : Str} (ht : t.length ≤ 1000000) : F_is_text [.str t, .str sg] = .ret (.bl (isText t sg)) := by
  have h1 : lcE [2] (strI (varE 0)) (nameG 2) yesT (opE inD (varE 2) (varE 1)) [.val (.str t), .val (.str sg), .no] = .ret (.lst (((chars t).filter fun _ => true).map fun s => D.bl (hasSub s sg))) :=
    lcE_strs (by show M.ret (DL.signs t) = _; rw [signs_chars]) (by rw [chars_len]; exact ht) fun s h => ⟨[.val (.str t), .val (.str sg), .val (.str s)], rfl, rfl, fun _ => rfl⟩
  rw [List.filter_eq_self.mpr (fun _ _ => rfl)] at h1
  show (B_is_text [.val (.str t), .val (.str sg), .no]).bind endD = _
  unfold B_is_text
  rw [ret_end]
  unfold andE
  have e0 : un1 (isiF ti_str) (varE 0) [.val (.str t), .val (.str sg), .no] = .ret (.bl true) := rfl
  rw [e0, M.ret_bind]
  show cbE allF _ _ = _
  rw [cbE_ret (consL_ret h1 rfl)]
  show M.ofO ((allB ((chars t).map fun s => D.bl (hasSub s sg))).map fun ks => D.bl (ks.all id)) = _
  rw [show ((chars t).map fun s => D.bl (hasSub s sg)) = ((chars t).map fun s => hasSub s sg).map D.bl from by rw [List.map_map]; rfl, allB_map]
  show M.ret (D.bl (((chars t).map fun s => hasSub s sg).all id)) = _
  unfold isText
  rw [List.all_map]
  rfl
/-- bars as a datum -/
abbrev Bp (sg : Str) (ws es : List Str) : D := .ins "Bars" [("signs", .str sg), ("words", .tup (ws.map D.str)), ("ends", .tup (es.map D.str))]
theorem fld_signs {sg : Str} {ws es : List Str} : fldF fc_signs "signs" (Bp sg ws es) = some (.str sg) := by rfl
theorem fld_words {sg : Str} {ws es : List Str} : fldF fc_words "words" (Bp sg ws es) = some (.tup (ws.map D.str)) := by rfl
theorem fld_ends {sg : Str} {ws es : List Str} : fldF fc_ends "ends" (Bp sg ws es) = some (.tup (es.map D.str)) := by rfl
theorem un1_ret {f : D → Option D} {F : SE} {env : PEnv} {x : D} (h : F env = .ret x) : un1 f F env = M.ofO (f x) := by
  unfold un1
  rw [h, M.ret_bind]
theorem F_holds_b {sg t : Str} {ws es : List Str} (hz : ws.length ≤ 1000000) : F_Bars_holds [Bp sg ws es, .str t] = .ret (.bl (holdsP ws t)) := by
  have hi : seqI (un1 (fldF fc_words "words") (varE 0)) [.val (Bp sg ws es), .val (.str t), .no] = .ret (ws.map D.str) := by
    unfold seqI
    rw [un1_ret rfl, fld_words]
    rfl
  have h1 : lcE [2] (seqI (un1 (fldF fc_words "words") (varE 0))) (nameG 2) yesT (opE inD (varE 2) (varE 1)) [.val (Bp sg ws es), .val (.str t), .no] = .ret (.lst ((ws.filter fun _ => true).map fun s => D.bl (hasSub s t))) :=
    lcE_strs hi hz fun s h => ⟨[.val (Bp sg ws es), .val (.str t), .val (.str s)], rfl, rfl, fun _ => rfl⟩
  rw [List.filter_eq_self.mpr (fun _ _ => rfl)] at h1
  show (B_Bars_holds [.val (Bp sg ws es), .val (.str t), .no]).bind endD = _
  unfold B_Bars_holds
  rw [ret_end, cbE_ret (consL_ret h1 rfl)]
  show M.ofO ((allB (ws.map fun s => D.bl (hasSub s t))).map fun ks => D.bl (ks.any id)) = _
  rw [show (ws.map fun s => D.bl (hasSub s t)) = (ws.map fun s => hasSub s t).map D.bl from by rw [List.map_map]; rfl, allB_map]
  show M.ret (D.bl ((ws.map fun s => hasSub s t).any id)) = _
  unfold holdsP
  rw [List.any_map]
  rfl
def lastP (es : List Str) (t : Str) : Str := match (List.range t.length).filter fun i => decide (suf t i ∈ es) with
  | [] => ""
  | i :: _ => suf t i
theorem last_loop {sg t : Str} {ws es : List Str} (ht : t.length ≤ 1000000) : ∀ (l : List Nat) (s : Slot),
    ∃ s', forLoop (nameG 2) (ifS (boolT (opE inD (slE (varE 1) (someO (varE 2)) noO) (un1 (fldF fc_ends "ends") (varE 0)))) (retS (slE (varE 1) (someO (varE 2)) noO)) skipS) (l.map fun i => D.int (0 + (i : Nat))) [.val (Bp sg ws es), .val (.str t), s] =
      .ret ((match l.filter fun i => decide (suf t i ∈ es) with | [] => Fl.nx | i :: _ => Fl.rt (.str (suf t i))), [.val (Bp sg ws es), .val (.str t), s'])
  | [], s => ⟨s, rfl⟩
  | i :: r, s => by
    have e0 : (0 : Int) + (i : Nat) = (i : Nat) := by omega
    have e1 : slE (varE 1) (someO (varE 2)) noO [.val (Bp sg ws es), .val (.str t), .val (.int (i : Nat))] = .ret (.str (suf t i)) := by
      show M.ofO (slD (.str t) (some (i : Nat)) none) = _
      rw [slD_str ht]
      rfl
    have e2 : boolT (opE inD (slE (varE 1) (someO (varE 2)) noO) (un1 (fldF fc_ends "ends") (varE 0))) [.val (Bp sg ws es), .val (.str t), .val (.int (i : Nat))] = .ret (decide (suf t i ∈ es)) := by
      refine boolT_ret ?_
      refine (opE_ret e1 ((un1_ret rfl).trans (by rw [fld_ends]; rfl))).trans ?_
      rw [inD_tup]
      rfl
    rw [List.map_cons, e0]
    unfold forLoop
    show ∃ s', (M.bind (ifS _ _ _ [.val (Bp sg ws es), .val (.str t), .val (.int (i : Nat))]) _) = _
    rw [ifS_ret e2]
    by_cases c : suf t i ∈ es
    · refine ⟨.val (.int (i : Nat)), ?_⟩
      have ef : (i :: r).filter (fun i => decide (suf t i ∈ es)) = i :: r.filter (fun i => decide (suf t i ∈ es)) := List.filter_cons_of_pos (by exact decide_eq_true c)
      rw [if_pos (decide_eq_true c), ef]
      unfold retS
      rw [e1]
      rfl
    · have ef : (i :: r).filter (fun i => decide (suf t i ∈ es)) = r.filter (fun i => decide (suf t i ∈ es)) := List.filter_cons_of_neg (by simpa using c)
      rw [if_neg (by simpa using c), ef]
      exact last_loop ht r _
theorem F_last_b {sg t : Str} {ws es : List Str} (ht : t.length ≤ 1000000) : F_Bars_last_of [Bp sg ws es, .str t] = .ret (.str (lastP es t)) := by
  have hr : rng1I (consL (cbE lenF (consL (varE 1) nilL)) nilL) [.val (Bp sg ws es), .val (.str t), .no] = .ret ((List.range t.length).map fun i => D.int (0 + (i : Nat))) := by
    refine rng1_ret (consL_ret (x := .int (t.length : Nat)) ?_ rfl) ht
    refine (cbE_ret (consL_ret rfl rfl)).trans ?_
    show M.ofO (if t.length ≤ 1000000 then some (D.int t.length) else none) = _
    rw [if_pos ht]
    rfl
  obtain ⟨s', h⟩ := last_loop (sg := sg) (ws := ws) (es := es) ht (List.range t.length) .no
  show (B_Bars_last_of [.val (Bp sg ws es), .val (.str t), .no]).bind endD = _
  unfold B_Bars_last_of seqS
  rw [forS_ret hr, h]
  unfold lastP
  cases (List.range t.length).filter fun i => decide (suf t i ∈ es) with
  | nil => rfl
  | cons i r => rfl
theorem end_last {es : List Str} {t : Str} (h : ("" : Str) ∈ es) : endP es t = lastP es t := by
  unfold endP lastP sufs
  rw [List.range_succ, List.filter_append, List.map_append]
  cases (List.range t.length).filter fun i => decide (suf t i ∈ es) with
  | nil =>
    have ef : [t.length].filter (fun i => decide (suf t i ∈ es)) = [t.length] := List.filter_cons_of_pos (by rw [suf_all]; exact decide_eq_true h)
    rw [List.map_nil, List.nil_append, ef]
    exact suf_all
  | cons i r => rfl
theorem meth_ret {m : Str} {n : Nat} {Fn : DL.Fn} {R : SE} {L : SL} {env : PEnv} {sg : Str} {ws es : List Str} {ds : List D} (h1 : R env = .ret (Bp sg ws es)) (h2 : L env = .ret ds) (hn : ds.length + 1 = n) (hm : ([("signs", .str sg), ("words", .tup (ws.map D.str)), ("ends", .tup (es.map D.str))] : List (Str × D)).lookup m = none) : methE "Bars" m n Fn R L env = Fn (Bp sg ws es :: ds) := by
  unfold methE
  rw [h1, M.ret_bind]
  show (if ("Bars" : Str) = "Bars" ∧ _ = none then (L env).bind _ else M.fail) = _
  rw [if_pos ⟨rfl, hm⟩, h2, M.ret_bind]
  unfold lenL
  rw [if_pos (by simpa using hn)]
theorem orT_ret {A B : ST} {env : PEnv} {x y : Bool} (h1 : A env = .ret x) (h2 : B env = .ret y) : orT A B env = .ret (x || y) := by
  unfold orT
  rw [h1, M.ret_bind]
  cases x
  · exact h2
  · rfl
theorem fld_at {sg t : Str} {ws es : List Str} {env : PEnv} (h : env[0]? = some (.val (Bp sg ws es))) : un1 (fldF fc_signs "signs") (varE 0) env = .ret (.str sg) ∧ un1 (fldF fc_words "words") (varE 0) env = .ret (.tup (ws.map D.str)) ∧ un1 (fldF fc_ends "ends") (varE 0) env = .ret (.tup (es.map D.str)) := by
  have hv : varE 0 env = .ret (Bp sg ws es) := by
    unfold varE
    rw [h]
  exact ⟨(un1_ret hv).trans (by rw [fld_signs]; rfl), (un1_ret hv).trans (by rw [fld_words]; rfl), (un1_ret hv).trans (by rw [fld_ends]; rfl)⟩
theorem F_end_of_b {sg t : Str} {ws es : List Str} (ht : t.length ≤ 1000000) (hz : ws.length ≤ 1000000) (hi : isText t sg = true) (hh : holdsP ws t = false) : F_Bars_end_of [Bp sg ws es, .str t] = .ret (.str (lastP es t)) := by
  have f := fld_at (t := t) (sg := sg) (ws := ws) (es := es) (env := [.val (Bp sg ws es), .val (.str t)]) rfl
  have e1 : callE 2 F_is_text (consL (varE 1) (consL (un1 (fldF fc_signs "signs") (varE 0)) nilL)) [.val (Bp sg ws es), .val (.str t)] = .ret (.bl true) := by
    have ea : consL (varE 1) (consL (un1 (fldF fc_signs "signs") (varE 0)) nilL) [.val (Bp sg ws es), .val (.str t)] = .ret [.str t, .str sg] := consL_ret (by rfl) (consL_ret f.1 (by rfl))
    exact (callE_ret ea rfl).trans (by rw [F_is_text_str ht, hi])
  have e2 : methE "Bars" "holds" 2 F_Bars_holds (varE 0) (consL (varE 1) nilL) [.val (Bp sg ws es), .val (.str t)] = .ret (.bl false) := by
    have ea : consL (varE 1) nilL [.val (Bp sg ws es), .val (.str t)] = .ret [.str t] := rfl
    exact (meth_ret (sg := sg) (ws := ws) (es := es) rfl ea rfl (by rfl)).trans (by rw [F_holds_b hz, hh])
  have e3 : methE "Bars" "last_of" 2 F_Bars_last_of (varE 0) (consL (varE 1) nilL) [.val (Bp sg ws es), .val (.str t)] = .ret (.str (lastP es t)) := by
    have ea : consL (varE 1) nilL [.val (Bp sg ws es), .val (.str t)] = .ret [.str t] := rfl
    exact (meth_ret (sg := sg) (ws := ws) (es := es) rfl ea rfl (by rfl)).trans (F_last_b ht)
  show (B_Bars_end_of [.val (Bp sg ws es), .val (.str t)]).bind endD = _
  unfold B_Bars_end_of
  have ei : ifS (orT (notT (boolT (callE 2 F_is_text (consL (varE 1) (consL (un1 (fldF fc_signs "signs") (varE 0)) nilL))))) (boolT (methE "Bars" "holds" 2 F_Bars_holds (varE 0) (consL (varE 1) nilL)))) (fun _ => .fail) skipS [.val (Bp sg ws es), .val (.str t)] = .ret (.nx, [.val (Bp sg ws es), .val (.str t)]) := by
    rw [ifS_ret (orT_ret (notT_ret (boolT_ret e1)) (boolT_ret e2))]
    rfl
  rw [seqS_nx ei, ret_end, e3]
theorem F_contains_b {sg t : Str} {ws es : List Str} (ht : t.length ≤ 1000000) (hz : ws.length ≤ 1000000) (hi : isText t sg = true) : F_Bars_contains [Bp sg ws es, .str t] = .ret (.bl (holdsP ws t)) := by
  have f := fld_at (t := t) (sg := sg) (ws := ws) (es := es) (env := [.val (Bp sg ws es), .val (.str t)]) rfl
  have e1 : callE 2 F_is_text (consL (varE 1) (consL (un1 (fldF fc_signs "signs") (varE 0)) nilL)) [.val (Bp sg ws es), .val (.str t)] = .ret (.bl true) := by
    have ea : consL (varE 1) (consL (un1 (fldF fc_signs "signs") (varE 0)) nilL) [.val (Bp sg ws es), .val (.str t)] = .ret [.str t, .str sg] := consL_ret (by rfl) (consL_ret f.1 (by rfl))
    exact (callE_ret ea rfl).trans (by rw [F_is_text_str ht, hi])
  have e2 : methE "Bars" "holds" 2 F_Bars_holds (varE 0) (consL (varE 1) nilL) [.val (Bp sg ws es), .val (.str t)] = .ret (.bl (holdsP ws t)) := by
    have ea : consL (varE 1) nilL [.val (Bp sg ws es), .val (.str t)] = .ret [.str t] := rfl
    exact (meth_ret (sg := sg) (ws := ws) (es := es) rfl ea rfl (by rfl)).trans (F_holds_b hz)
  show (B_Bars_contains [.val (Bp sg ws es), .val (.str t)]).bind endD = _
  unfold B_Bars_contains
  rw [ret_end]
  unfold andE
  rw [e1, M.ret_bind]
  exact e2
theorem F_len_b {sg : Str} {ws es : List Str} : F_Bars_len [Bp sg ws es] = .ret (.int (ws.length : Nat)) := by
  have f := fld_at (t := sg) (sg := sg) (ws := ws) (es := es) (env := [.val (Bp sg ws es)]) rfl
  show (B_Bars_len [.val (Bp sg ws es)]).bind endD = _
  unfold B_Bars_len
  rw [ret_end, cbE_ret (consL_ret f.2.1 (by rfl))]
  show M.ret (D.int ((ws.map D.str).length : Nat)) = _
  rw [List.length_map]
theorem addD_str {x y : Str} (h : x.length + y.length ≤ 1000000) : addD (.str x) (.str y) = some (.str (x ++ y)) := by
  have e : addS (.str x) (.str y) = some (.str (x ++ y)) := if_pos h
  unfold addD
  rw [e]
  rfl
theorem app_len {x y : Str} : (x ++ y).length = x.length + y.length := by
  show (x.cps ++ y.cps).size = _
  rw [Array.size_append]
  rfl
def behindP (ws es : List Str) (x : Str) : D := if holdsP ws x = true then .non else .str (lastP es x)
theorem F_behind_b {sg e t : Str} {ws es : List Str} (hl : e.length + t.length ≤ 1000000) (hz : ws.length ≤ 1000000) (hi : isText t sg = true) (he : e ∈ es) : F_Bars_behind [Bp sg ws es, .str e, .str t] = .ret (behindP ws es (e ++ t)) := by
  have f := fld_at (t := t) (sg := sg) (ws := ws) (es := es) (env := [.val (Bp sg ws es), .val (.str e), .val (.str t)]) rfl
  have e1 : callE 2 F_is_text (consL (varE 2) (consL (un1 (fldF fc_signs "signs") (varE 0)) nilL)) [.val (Bp sg ws es), .val (.str e), .val (.str t)] = .ret (.bl true) := by
    have ea : consL (varE 2) (consL (un1 (fldF fc_signs "signs") (varE 0)) nilL) [.val (Bp sg ws es), .val (.str e), .val (.str t)] = .ret [.str t, .str sg] := consL_ret (by rfl) (consL_ret f.1 (by rfl))
    exact (callE_ret ea rfl).trans (by rw [F_is_text_str (by omega), hi])
  have ex : consL (opE addD (varE 1) (varE 2)) nilL [.val (Bp sg ws es), .val (.str e), .val (.str t)] = .ret [.str (e ++ t)] := by
    refine consL_ret ?_ (by rfl)
    refine (opE_ret (by rfl) (by rfl)).trans ?_
    rw [addD_str hl]
    rfl
  have hlx : (e ++ t).length ≤ 1000000 := by rw [app_len]; exact hl
  have e2 : methE "Bars" "holds" 2 F_Bars_holds (varE 0) (consL (opE addD (varE 1) (varE 2)) nilL) [.val (Bp sg ws es), .val (.str e), .val (.str t)] = .ret (.bl (holdsP ws (e ++ t))) :=
    (meth_ret (sg := sg) (ws := ws) (es := es) rfl ex rfl (by rfl)).trans (F_holds_b hz)
  have e3 : methE "Bars" "last_of" 2 F_Bars_last_of (varE 0) (consL (opE addD (varE 1) (varE 2)) nilL) [.val (Bp sg ws es), .val (.str e), .val (.str t)] = .ret (.str (lastP es (e ++ t))) :=
    (meth_ret (sg := sg) (ws := ws) (es := es) rfl ex rfl (by rfl)).trans (F_last_b hlx)
  have i1 : ifS (orT (notT (boolT (un1 (isiF ti_str) (varE 1)))) (boolT (opE ninD (varE 1) (un1 (fldF fc_ends "ends") (varE 0))))) (fun _ => .fail) skipS [.val (Bp sg ws es), .val (.str e), .val (.str t)] = .ret (.nx, [.val (Bp sg ws es), .val (.str e), .val (.str t)]) := by
    have h2 : opE ninD (varE 1) (un1 (fldF fc_ends "ends") (varE 0)) [.val (Bp sg ws es), .val (.str e), .val (.str t)] = .ret (.bl false) := by
      refine (opE_ret (by rfl) f.2.2).trans ?_
      have h : inF (.str e) (.tup (es.map D.str)) = some (decide (e ∈ es)) := by
        show (if (flatD (.str e) && (es.map D.str).all flatD) = true then some ((es.map D.str).any fun y => eqF y (.str e)) else none) = _
        rw [if_pos (by rw [flat_strs]; rfl), any_strs]
      unfold ninD inAll inS
      rw [h, decide_eq_true he]
      rfl
    rw [ifS_ret (orT_ret (notT_ret (boolT_ret (k := true) (by rfl))) (boolT_ret h2))]
    rfl
  have i2 : ifS (notT (boolT (callE 2 F_is_text (consL (varE 2) (consL (un1 (fldF fc_signs "signs") (varE 0)) nilL))))) (fun _ => .fail) skipS [.val (Bp sg ws es), .val (.str e), .val (.str t)] = .ret (.nx, [.val (Bp sg ws es), .val (.str e), .val (.str t)]) := by
    rw [ifS_ret (notT_ret (boolT_ret e1))]
    rfl
  show (B_Bars_behind [.val (Bp sg ws es), .val (.str e), .val (.str t)]).bind endD = _
  unfold B_Bars_behind
  rw [seqS_nx i1, seqS_nx i2, ret_end]
  unfold ifE
  rw [boolT_ret e2, M.ret_bind]
  unfold behindP
  by_cases c : holdsP ws (e ++ t) = true
  · rw [if_pos c, if_pos c]
    rfl
  · rw [if_neg c, if_neg c]
    exact e3
theorem F_behind_w {e t : Str} {ws : List Str} (hs : small ws) (hk : oks ws) (hl : e.length + t.length ≤ 100000) : F__law_behind [S ws, .str e, .str t] = .ret (if holdsP ws (e ++ t) = true then .non else .str (endP (endsP ws) (e ++ t))) := by
  have ex : consL (varE 0) (consL (opE addD (varE 1) (varE 2)) nilL) [.val (S ws), .val (.str e), .val (.str t)] = .ret [S ws, .str (e ++ t)] := by
    refine consL_ret (by rfl) (consL_ret ?_ (by rfl))
    refine (opE_ret (by rfl) (by rfl)).trans ?_
    rw [addD_str (by omega)]
    rfl
  have e2 : callE 2 F__law_holds (consL (varE 0) (consL (opE addD (varE 1) (varE 2)) nilL)) [.val (S ws), .val (.str e), .val (.str t)] = .ret (.bl (holdsP ws (e ++ t))) := (callE_ret ex rfl).trans (F_holds hs.z hk)
  have e3 : callE 2 F__law_end (consL (varE 0) (consL (opE addD (varE 1) (varE 2)) nilL)) [.val (S ws), .val (.str e), .val (.str t)] = .ret (.str (endP (endsP ws) (e ++ t))) := (callE_ret ex rfl).trans (F_end_w hs hk (by rw [app_len]; exact hl))
  show (B__law_behind [.val (S ws), .val (.str e), .val (.str t)]).bind endD = _
  unfold B__law_behind
  rw [ret_end]
  unfold ifE
  rw [boolT_ret e2, M.ret_bind]
  by_cases c : holdsP ws (e ++ t) = true
  · rw [if_pos c, if_pos c]
    rfl
  · rw [if_neg c, if_neg c]
    exact e3
theorem fld_at2 {sg : Str} {ws es : List Str} {i : Nat} {env : PEnv} (h : env[i]? = some (.val (Bp sg ws es))) : un1 (fldF fc_signs "signs") (varE i) env = .ret (.str sg) ∧ un1 (fldF fc_words "words") (varE i) env = .ret (.tup (ws.map D.str)) ∧ un1 (fldF fc_ends "ends") (varE i) env = .ret (.tup (es.map D.str)) := by
  have hv : varE i env = .ret (Bp sg ws es) := by
    unfold varE
    rw [h]
  exact ⟨(un1_ret hv).trans (by rw [fld_signs]; rfl), (un1_ret hv).trans (by rw [fld_words]; rfl), (un1_ret hv).trans (by rw [fld_ends]; rfl)⟩
theorem andE_ret {A B : SE} {env : PEnv} {x y : Bool} (h1 : A env = .ret (.bl x)) (h2 : B env = .ret (.bl y)) : andE A B env = .ret (.bl (x && y)) := by
  unfold andE
  rw [h1]
  cases x
  · rfl
  · exact h2
theorem F_eq_b {sg sg' : Str} {ws es ws' es' : List Str} (h1 : PyData.strOk sg = true) (h2 : PyData.strOk sg' = true) (k1 : oks ws) (k2 : oks ws') : F_Bars_eq [Bp sg ws es, Bp sg' ws' es'] = .ret (.bl (decide (sg = sg') && decide (ws = ws'))) := by
  have f := fld_at2 (sg := sg) (ws := ws) (es := es) (i := 0) (env := [.val (Bp sg ws es), .val (Bp sg' ws' es')]) rfl
  have g := fld_at2 (sg := sg') (ws := ws') (es := es') (i := 1) (env := [.val (Bp sg ws es), .val (Bp sg' ws' es')]) rfl
  show (B_Bars_eq [.val (Bp sg ws es), .val (Bp sg' ws' es')]).bind endD = _
  unfold B_Bars_eq
  rw [ret_end]
  refine (andE_ret (x := true) (by rfl) (andE_ret (x := decide (sg = sg')) (y := decide (ws = ws')) ?_ ?_)).trans (by rw [Bool.true_and])
  · refine (opE_ret f.1 g.1).trans ?_
    rw [eqD_str _ _ h1 h2]
    rfl
  · refine (opE_ret f.2.1 g.2.1).trans ?_
    rw [eqD_strsT _ _ k1 k2]
    rfl
theorem F_eq_t {sg : Str} {ws es : List Str} {l : List D} : F_Bars_eq [Bp sg ws es, .tup l] = .ret (.bl false) := by rfl
theorem F_contains_non {sg : Str} {ws es : List Str} : F_Bars_contains [Bp sg ws es, .non] = .ret (.bl false) := by rfl
theorem F_contains_int {sg : Str} {ws es : List Str} {i : Int} : F_Bars_contains [Bp sg ws es, .int i] = .ret (.bl false) := by rfl
theorem F_contains_lst {sg : Str} {ws es : List Str} {l : List D} : F_Bars_contains [Bp sg ws es, .lst l] = .ret (.bl false) := by rfl
theorem signs_ok : ∀ sg ∈ (["01", "ab", "019", "xyz", "0abz"] : List Str), F_need_signs [.str sg] = .ret .non := by
  intro sg h
  simp only [List.mem_cons, List.not_mem_nil, or_false] at h
  rcases h with rfl | rfl | rfl | rfl | rfl <;> kernel_rfl
def addKey (ks : List Str) (w : Str) : List Str := if w ∈ ks then ks else ks ++ [w]
def uniq (ws : List Str) : List Str := ws.foldl addKey []
def kdsOf (ks : List Str) : List (L2.Key × D) := ks.map fun s => ((Sum.inr s : L2.Key), D.bl true)
theorem kput_kds (ks : List Str) (w : Str) : kput (kdsOf ks) (Sum.inr w) (.bl true) = kdsOf (addKey ks w) := by
  have ha : ((kdsOf ks).any fun kv => decide (kv.1 = (Sum.inr w : L2.Key))) = decide (w ∈ ks) := by
    unfold kdsOf
    rw [List.any_map]
    induction ks with
    | nil => rfl
    | cons s r ih =>
      rw [List.any_cons, ih]
      show (decide ((Sum.inr s : L2.Key) = Sum.inr w) || _) = _
      by_cases h : s = w
      · subst h; simp
      · have h2 : ¬ w = s := fun z => h z.symm
        have h3 : ¬ (Sum.inr s : L2.Key) = Sum.inr w := fun z => h (Sum.inr.inj z)
        simp [h2, h3]
  unfold kput addKey
  rw [ha]
  by_cases h : w ∈ ks
  · rw [if_pos (decide_eq_true h), if_pos h]
    unfold kdsOf
    rw [List.map_map]
    refine List.map_congr_left fun s _ => ?_
    show (if (Sum.inr s : L2.Key) = Sum.inr w then ((Sum.inr s : L2.Key), D.bl true) else ((Sum.inr s : L2.Key), D.bl true)) = _
    split <;> rfl
  · rw [if_neg (by simpa using h), if_neg h]
    unfold kdsOf
    rw [List.map_append]
    rfl
theorem addKey_len (ks : List Str) (w : Str) : (addKey ks w).length ≤ ks.length + 1 := by
  unfold addKey
  split
  · omega
  · simp
theorem uniq_len (ws : List Str) : (uniq ws).length ≤ ws.length := by
  have := fold_len addKey_len ws []
  simpa [uniq] using this
theorem uniq_mem {ws : List Str} {s : Str} : s ∈ uniq ws ↔ s ∈ ws := by
  have key : ∀ (l ks : List Str), s ∈ l.foldl addKey ks ↔ s ∈ ks ∨ s ∈ l := by
    intro l
    induction l with
    | nil => intro ks; simp
    | cons w r ih =>
      intro ks
      rw [List.foldl_cons, ih]
      unfold addKey
      split
      · rename_i h
        constructor
        · rintro (h1 | h1)
          · exact .inl h1
          · exact .inr (List.mem_cons_of_mem _ h1)
        · rintro (h1 | h1)
          · exact .inl h1
          · rcases List.mem_cons.mp h1 with rfl | h2
            · exact .inl h
            · exact .inr h2
      · simp [or_assoc]
  simpa [uniq] using key ws []
theorem uniq_nodup (ws : List Str) : (uniq ws).Nodup := by
  have key : ∀ (l ks : List Str), ks.Nodup → (l.foldl addKey ks).Nodup := by
    intro l
    induction l with
    | nil => intro ks h; exact h
    | cons w r ih =>
      intro ks h
      refine ih _ ?_
      unfold addKey
      split
      · exact h
      · rename_i hn
        rw [List.nodup_append]
        exact ⟨h, by simp, fun a ha b hb => by
          rw [List.mem_singleton] at hb
          subst hb
          exact fun z => hn (z ▸ ha)⟩
  exact key ws [] List.nodup_nil
theorem all_range (l : List Str) : (List.range l.length).map (fun i => l[i]?.getD ("" : Str)) = l := by
  apply List.ext_getElem
  · simp
  · intro i h1 h2
    simp [h2]
theorem someP_sub (ws : List Str) : (someP ws).Sublist (sortS ws) := by
  have h : (someP ws).Sublist ((List.range (sortS ws).length).map fun i => (sortS ws)[i]?.getD "") := (List.filter_sublist).map _
  rw [all_range] at h
  exact h
theorem someP_sorted (ws : List Str) : (someP ws).Pairwise (fun a b => leS a b = true) := (sortS_sorted ws).sublist (someP_sub ws)
theorem someP_nodup (ws : List Str) : (someP ws).Nodup := by
  unfold someP List.Nodup
  rw [List.pairwise_map]
  have hlt : (dedupP (sortS ws)).Pairwise (· < ·) := List.pairwise_lt_range.sublist List.filter_sublist
  refine hlt.imp_of_mem fun {i} {j} hi hj hij => ?_
  have hi' := List.mem_range.mp (List.mem_filter.mp hi).1
  have hj' := (List.mem_filter.mp hj).2
  have hn : (sortS ws)[j]?.getD "" ∉ (sortS ws).take j := by simpa using hj'
  intro e
  refine hn ?_
  rw [← e, getq hi']
  exact List.mem_take_iff_getElem.mpr ⟨i, by omega, rfl⟩
theorem someP_mem {ws : List Str} {s : Str} : s ∈ someP ws ↔ s ∈ ws := by
  constructor
  · intro h
    exact (sortS_perm ws).mem_iff.mp ((someP_sub ws).subset h)
  · intro h
    have h1 : s ∈ sortS ws := (sortS_perm ws).mem_iff.mpr h
    obtain ⟨i, hi, e⟩ := List.mem_iff_getElem.mp h1
    -- the first place
    have key : ∀ n, ∀ i (hi : i < (sortS ws).length), i = n → (sortS ws)[i] = s → s ∈ someP ws := by
      intro n
      induction n using Nat.strongRecOn with
      | _ n ih =>
        intro i hi en e
        by_cases c : (sortS ws)[i]?.getD "" ∈ (sortS ws).take i
        · obtain ⟨m, hm, em⟩ := List.mem_take_iff_getElem.mp c
          refine ih m (by omega) m (by omega) rfl ?_
          rw [em, getq hi, e]
        · unfold someP dedupP
          exact List.mem_map.mpr ⟨i, List.mem_filter.mpr ⟨List.mem_range.mpr hi, by simpa using c⟩, by rw [getq hi, e]⟩
    exact key i i hi rfl e
theorem some_uniq (ws : List Str) : someP ws = sortS (uniq ws) :=
  sortS_unique ((List.perm_ext_iff_of_nodup (someP_nodup ws) (uniq_nodup ws)).mpr fun s => by rw [someP_mem, uniq_mem]) (someP_sorted ws)
theorem some_same {ws vs : List Str} (h : ∀ s, s ∈ ws ↔ s ∈ vs) : someP ws = someP vs := by
  rw [some_uniq vs]
  exact sortS_unique ((List.perm_ext_iff_of_nodup (someP_nodup ws) (uniq_nodup vs)).mpr fun s => by rw [someP_mem, uniq_mem, h]) (someP_sorted ws)
theorem least_same {ws vs : List Str} (h : ∀ s, s ∈ ws ↔ s ∈ vs) : leastP ws = leastP vs := by
  unfold leastP
  rw [some_same h]
theorem keys_kds (ks : List Str) : (kdsOf ks).map (fun kv => keyD kv.1) = ks.map D.str := by
  unfold kdsOf
  rw [List.map_map]
  rfl
theorem filter_any (q p : Str → Bool) : ∀ l : List Str, (l.filter fun o => q o && p o) = [] ↔ ((l.filter q).any p) = false
  | [] => by simp
  | o :: r => by
    have ih := filter_any q p r
    cases hq : q o <;> cases hp : p o <;> simp_all
theorem F_least_b {ws : List Str} (hz : ws.length < 64) (hk : oks ws) : F_least_words [.tup (ws.map D.str)] = .ret (S (leastP ws)) := by
  obtain ⟨env', h1, ⟨s2', h2, h3⟩⟩ := forLoop_foldN (tg := nameG 2) (k := 0) (a := ([] : List Str)) (R := fun i env ks => ∃ s2, env = [.val (.tup (ws.map D.str)), .own (.dct (kdsOf ks)), s2, .no, .no] ∧ ks.length ≤ i) (step := fun ks d => match d with | .str w => addKey ks w | _ => ks) (body := putS 1 (varE 2) (conE (.bl true))) (xs := ws.map D.str) (env := [.val (.tup (ws.map D.str)), .own (.dct (kdsOf [])), .no, .no, .no]) ⟨.no, rfl, by simp⟩ (fun i x _ hi hx env ks ⟨t2, e, hg⟩ => by
      obtain ⟨w, hw, rfl⟩ := List.mem_map.mp hx
      subst e
      rw [List.length_map] at hi
      refine ⟨[.val (.tup (ws.map D.str)), .own (.dct (kdsOf ks)), .val (.str w), .no, .no], [.val (.tup (ws.map D.str)), .own (.dct (kdsOf (addKey ks w))), .val (.str w), .no, .no], rfl, ?_, .val (.str w), rfl, ?_⟩
      · have hl : (kdsOf ks).length < 1000000 := by unfold kdsOf; rw [List.length_map]; omega
        show (if (kdsOf ks).length < 1000000 then M.ret (Fl.nx, [Slot.val (.tup (ws.map D.str)), .own (.dct (kput (kdsOf ks) (Sum.inr w) (.bl true))), .val (.str w), .no, .no]) else .fail) = _
        rw [if_pos hl, kput_kds]
      · have := addKey_len ks w
        show (addKey ks w).length ≤ _
        omega)
  have ef : (ws.map D.str).foldl (fun (ks : List Str) d => match d with | .str w => addKey ks w | _ => ks) [] = uniq ws := by
    rw [List.foldl_map]
    rfl
  rw [ef] at h2
  have hu := uniq_len ws
  have h4 : lcE [2] (keysI (varE 1)) (nameG 2) yesT (cbE strF (consL (varE 2) nilL)) [.val (.tup (ws.map D.str)), .val (.dct (kdsOf (uniq ws))), s2', .no, .no] = .ret (S ((uniq ws).filter fun _ => true)) :=
    lcE_strs (by show M.ret ((kdsOf (uniq ws)).map fun kv => keyD kv.1) = _; rw [keys_kds]) (by omega) fun s h => ⟨[.val (.tup (ws.map D.str)), .val (.dct (kdsOf (uniq ws))), .val (.str s), .no, .no], rfl, rfl, fun _ => rfl⟩
  rw [List.filter_eq_self.mpr (fun _ _ => rfl)] at h4
  have h5 : cbE srtF (consL (lcE [2] (keysI (varE 1)) (nameG 2) yesT (cbE strF (consL (varE 2) nilL))) nilL) [.val (.tup (ws.map D.str)), .val (.dct (kdsOf (uniq ws))), s2', .no, .no] = .ret (S (someP ws)) := by
    rw [cbE_ret (consL_ret h4 rfl), srtF_strs _ (by omega), some_uniq]
    rfl
  have ho := someP_oks hk
  have hl := someP_len ws
  have h6 : lcE [2] (seqI (varE 3)) (nameG 2) (notT (boolT (cbE anyF (consL (lcE [4] (seqI (varE 3)) (nameG 4) (boolT (opE neD (varE 4) (varE 2))) (opE inD (varE 4) (varE 2))) nilL)))) (varE 2) [.val (.tup (ws.map D.str)), .val (.dct (kdsOf (uniq ws))), s2', .val (S (someP ws)), .no] = .ret (S (leastP ws)) := by
    refine lcE_strs (p := noOther (someP ws)) (f := D.str) rfl (by omega) fun s hs => ⟨[.val (.tup (ws.map D.str)), .val (.dct (kdsOf (uniq ws))), .val (.str s), .val (S (someP ws)), .no], rfl, ?_, fun _ => rfl⟩
    have e1 : lcE [4] (seqI (varE 3)) (nameG 4) (boolT (opE neD (varE 4) (varE 2))) (opE inD (varE 4) (varE 2)) [.val (.tup (ws.map D.str)), .val (.dct (kdsOf (uniq ws))), .val (.str s), .val (S (someP ws)), .no] = .ret (.lst (((someP ws).filter fun o => !decide (o = s)).map fun o => D.bl (hasSub o s))) :=
      lcE_strs rfl (by omega) fun o h => ⟨[.val (.tup (ws.map D.str)), .val (.dct (kdsOf (uniq ws))), .val (.str s), .val (S (someP ws)), .val (.str o)], rfl, boolT_ret (by
        refine (opE_ret rfl rfl).trans ?_
        rw [neD_str _ _ (ho o h) (ho s hs)]
        rfl), fun _ => rfl⟩
    have e2 : cbE anyF (consL (lcE [4] (seqI (varE 3)) (nameG 4) (boolT (opE neD (varE 4) (varE 2))) (opE inD (varE 4) (varE 2))) nilL) [.val (.tup (ws.map D.str)), .val (.dct (kdsOf (uniq ws))), .val (.str s), .val (S (someP ws)), .no] = .ret (.bl (((someP ws).filter fun o => !decide (o = s)).any fun o => hasSub o s)) := by
      rw [cbE_ret (consL_ret e1 rfl)]
      show M.ofO ((allB (((someP ws).filter fun o => !decide (o = s)).map fun o => D.bl (hasSub o s))).map fun ks => D.bl (ks.any id)) = _
      rw [show (((someP ws).filter fun o => !decide (o = s)).map fun o => D.bl (hasSub o s)) = (((someP ws).filter fun o => !decide (o = s)).map fun o => hasSub o s).map D.bl from by rw [List.map_map]; rfl, allB_map]
      show M.ret (D.bl ((((someP ws).filter fun o => !decide (o = s)).map fun o => hasSub o s).any id)) = _
      rw [List.any_map]
      rfl
    rw [notT_ret (boolT_ret e2)]
    congr 1
    unfold noOther
    have := filter_any (fun o => !decide (o = s)) (fun o => hasSub o s) (someP ws)
    cases hh : ((someP ws).filter fun o => !decide (o = s)).any fun o => hasSub o s with
    | true => rw [decide_eq_false (fun z => by rw [this.mp z] at hh; cases hh)]; rfl
    | false => rw [decide_eq_true (this.mpr hh)]; rfl
  show (B_least_words [.val (.tup (ws.map D.str)), .no, .no, .no, .no]).bind endD = _
  unfold B_least_words
  rw [seqS_nx (env' := [.val (.tup (ws.map D.str)), .own (.dct (kdsOf [])), .no, .no, .no]) rfl]
  have hf : forS (seqI (varE 0)) (nameG 2) (putS 1 (varE 2) (conE (.bl true))) [.val (.tup (ws.map D.str)), .own (.dct (kdsOf [])), .no, .no, .no] = .ret (.nx, [.val (.tup (ws.map D.str)), .own (.dct (kdsOf (uniq ws))), s2', .no, .no]) := by
    rw [forS_ret (xs := ws.map D.str) rfl, h1, h2]
  rw [seqS_nx hf]
  show (seqS (asgS (nameG 3) _) _ [.val (.tup (ws.map D.str)), .val (.dct (kdsOf (uniq ws))), s2', .no, .no]).bind endD = _
  rw [seqS_nx (asgS_name h5)]
  show (retS _ [.val (.tup (ws.map D.str)), .val (.dct (kdsOf (uniq ws))), s2', .val (S (someP ws)), .no]).bind endD = _
  rw [ret_end, h6]
/-- the ends of the program: the same texts, found as keys -/
def addEndB (ws : List Str) (w : Str) (f : List Str) (k : Nat) : List Str := if (!holdsP ws (pre w k)) = true then addKey f (pre w k) else f
theorem addEnd_same (ws : List Str) (w : Str) : addEndB ws w = addEnd ws w := funext fun f => funext fun k => by
  unfold addEndB addEnd addKey
  cases h : holdsP ws (pre w k) <;> by_cases c : pre w k ∈ f <;> simp [c]
theorem ends_turnB {ws ks : List Str} {w : Str} {k : Nat} {s4 s5 : Slot} (hs : small ws) (hw : w.length ≤ 6) (hf : ks.length ≤ 1000) :
    ifS (notT (boolT (cbE anyF (consL (lcE [5] (seqI (varE 0)) (nameG 5) yesT (opE inD (varE 5) (slE (varE 2) noO (someO (varE 3))))) nilL)))) (putS 1 (slE (varE 2) noO (someO (varE 3))) (conE (.bl true))) skipS [.val (S ws), .own (.dct (kdsOf ks)), .val (.str w), .val (.int (1 + (k : Nat))), s4, s5] = .ret (.nx, [.val (S ws), .own (.dct (kdsOf (addEnd ws w ks k))), .val (.str w), .val (.int (1 + (k : Nat))), s4, s5]) := by
  have hsl : slD (.str w) none (some (1 + (k : Nat))) = some (.str (pre w k)) := slD_str (by omega)
  have e1 : ∀ s s4 s5, slE (varE 2) noO (someO (varE 3)) [.val (S ws), s, .val (.str w), .val (.int (1 + (k : Nat))), s4, s5] = .ret (.str (pre w k)) := fun s s4 s5 => by
    show M.ofO (slD (.str w) none (some (1 + (k : Nat)))) = _
    rw [hsl]
    rfl
  have e2 : lcE [5] (seqI (varE 0)) (nameG 5) yesT (opE inD (varE 5) (slE (varE 2) noO (someO (varE 3)))) [.val (S ws), .own (.dct (kdsOf ks)), .val (.str w), .val (.int (1 + (k : Nat))), s4, s5] = .ret (.lst ((ws.filter fun _ => true).map fun o => D.bl (hasSub o (pre w k)))) :=
    lcE_strs rfl hs.z fun o h => ⟨[.val (S ws), .own (.dct (kdsOf ks)), .val (.str w), .val (.int (1 + (k : Nat))), s4, .val (.str o)], rfl, rfl, fun _ => (opE_ret rfl (e1 _ _ _)).trans rfl⟩
  rw [List.filter_eq_self.mpr (fun _ _ => rfl)] at e2
  have e3 : cbE anyF (consL (lcE [5] (seqI (varE 0)) (nameG 5) yesT (opE inD (varE 5) (slE (varE 2) noO (someO (varE 3))))) nilL) [.val (S ws), .own (.dct (kdsOf ks)), .val (.str w), .val (.int (1 + (k : Nat))), s4, s5] = .ret (.bl (holdsP ws (pre w k))) := by
    rw [cbE_ret (consL_ret e2 rfl)]
    show M.ofO ((allB (ws.map fun o => D.bl (hasSub o (pre w k)))).map fun ks => D.bl (ks.any id)) = _
    rw [show (ws.map fun o => D.bl (hasSub o (pre w k))) = (ws.map fun o => hasSub o (pre w k)).map D.bl from by rw [List.map_map]; rfl, allB_map]
    show M.ret (D.bl ((ws.map fun o => hasSub o (pre w k)).any id)) = _
    unfold holdsP
    rw [List.any_map]
    rfl
  rw [ifS_ret (notT_ret (boolT_ret e3)), ← addEnd_same]
  unfold addEndB
  by_cases c : (!holdsP ws (pre w k)) = true
  · rw [if_pos c, if_pos c]
    have hl : (kdsOf ks).length < 1000000 := by unfold kdsOf; rw [List.length_map]; omega
    unfold putS
    show ((conE (.bl true)) _).bind _ = _
    show (slE (varE 2) noO (someO (varE 3)) [.val (S ws), .own (.dct (kdsOf ks)), .val (.str w), .val (.int (1 + (k : Nat))), s4, s5]).bind _ = _
    rw [e1, M.ret_bind]
    show (if (kdsOf ks).length < 1000000 then M.ret (Fl.nx, [Slot.val (S ws), .own (.dct (kput (kdsOf ks) (Sum.inr (pre w k)) (.bl true))), .val (.str w), .val (.int (1 + (k : Nat))), s4, s5]) else .fail) = _
    rw [if_pos hl, kput_kds]
  · rw [if_neg c, if_neg c]
    rfl
theorem F_ends_b {ws : List Str} (hs : small ws) : F_ends_of [S ws] = .ret (S (endsP ws)) := by
  have inner : ∀ (w : Str) (f : List Str) (s3 s4 s5 : Slot), w ∈ ws → f.length ≤ 100 → ∃ s3', forS (rng2I (consL (conE (.int 1)) (consL (cbE lenF (consL (varE 2) nilL)) nilL))) (nameG 3) (ifS (notT (boolT (cbE anyF (consL (lcE [5] (seqI (varE 0)) (nameG 5) yesT (opE inD (varE 5) (slE (varE 2) noO (someO (varE 3))))) nilL)))) (putS 1 (slE (varE 2) noO (someO (varE 3))) (conE (.bl true))) skipS) [.val (S ws), .own (.dct (kdsOf f)), .val (.str w), s3, s4, s5] = .ret (.nx, [.val (S ws), .own (.dct (kdsOf ((List.range (w.length - 1)).foldl (addEnd ws w) f))), .val (.str w), s3', s4, s5]) := by
    intro w f s3 s4 s5 hw hf
    have hw6 := hs.2 w hw
    have hr : rng2I (consL (conE (.int 1)) (consL (cbE lenF (consL (varE 2) nilL)) nilL)) [.val (S ws), .own (.dct (kdsOf f)), .val (.str w), s3, s4, s5] = .ret ((List.range (w.length - 1)).map fun i => D.int (1 + (i : Nat))) := by
      refine rng2_ret ?_ (by omega)
      refine consL_ret rfl (consL_ret (x := .int (w.length : Nat)) ?_ rfl)
      refine (cbE_ret (consL_ret rfl rfl)).trans ?_
      show M.ofO (if w.length ≤ 1000000 then some (D.int w.length) else none) = _
      rw [if_pos (by omega)]
      rfl
    rw [forS_ret hr]
    obtain ⟨env', h1, s3', h2, h3⟩ := forLoop_foldN (tg := nameG 3) (k := 0) (a := f) (R := fun i env g => ∃ s3, env = [.val (S ws), .own (.dct (kdsOf g)), .val (.str w), s3, s4, s5] ∧ g.length ≤ 100 + i) (step := fun g d => match d with | .int i => addEnd ws w g (i - 1).toNat | _ => g) (body := ifS (notT (boolT (cbE anyF (consL (lcE [5] (seqI (varE 0)) (nameG 5) yesT (opE inD (varE 5) (slE (varE 2) noO (someO (varE 3))))) nilL)))) (putS 1 (slE (varE 2) noO (someO (varE 3))) (conE (.bl true))) skipS) (xs := (List.range (w.length - 1)).map fun i => D.int (1 + (i : Nat))) ⟨s3, rfl, by omega⟩ (fun i x _ hi hx env g ⟨t3, e, hg⟩ => by
      obtain ⟨k, hk', rfl⟩ := List.mem_map.mp hx
      subst e
      rw [List.length_map, List.length_range] at hi
      have g1 := ends_turnB (s4 := s4) (s5 := s5) (k := k) hs hw6 (ks := g) (by omega)
      have ek : ((1 : Int) + (k : Nat) - 1).toNat = k := by omega
      refine ⟨_, _, rfl, g1, .val (.int (1 + (k : Nat))), ?_, ?_⟩
      · show _ = [Slot.val (S ws), .own (.dct (kdsOf (addEnd ws w g ((1 : Int) + (k : Nat) - 1).toNat))), _, _, _, _]
        rw [ek]
      · show (addEnd ws w g ((1 : Int) + (k : Nat) - 1).toNat).length ≤ _
        rw [ek]
        have := addEnd_len ws w g k
        omega)
    refine ⟨s3', ?_⟩
    rw [h1, h2, List.foldl_map]
    have e : (fun (g : List Str) (k : Nat) => addEnd ws w g ((1 : Int) + (k : Nat) - 1).toNat) = addEnd ws w := funext fun g => funext fun k => by
      have ek : ((1 : Int) + (k : Nat) - 1).toNat = k := by omega
      rw [ek]
    show M.ret (Fl.nx, [Slot.val (S ws), .own (.dct (kdsOf ((List.range (w.length - 1)).foldl (fun (g : List Str) (k : Nat) => addEnd ws w g ((1 : Int) + (k : Nat) - 1).toNat) f))), _, _, _, _]) = _
    rw [e]
  obtain ⟨env', h1, ⟨s2', s3', s4', s5', h2, h3⟩⟩ := forLoop_foldN (tg := nameG 2) (k := 0) (a := [("" : Str)]) (R := fun i env g => ∃ s2 s3 s4 s5, env = [.val (S ws), .own (.dct (kdsOf g)), s2, s3, s4, s5] ∧ g.length ≤ 1 + 5 * i) (step := fun g d => match d with | .str w => (List.range (w.length - 1)).foldl (addEnd ws w) g | _ => g) (body := forS (rng2I (consL (conE (.int 1)) (consL (cbE lenF (consL (varE 2) nilL)) nilL))) (nameG 3) (ifS (notT (boolT (cbE anyF (consL (lcE [5] (seqI (varE 0)) (nameG 5) yesT (opE inD (varE 5) (slE (varE 2) noO (someO (varE 3))))) nilL)))) (putS 1 (slE (varE 2) noO (someO (varE 3))) (conE (.bl true))) skipS)) (xs := ws.map D.str) (env := [.val (S ws), .own (.dct (kdsOf [("" : Str)])), .no, .no, .no, .no]) ⟨.no, .no, .no, .no, rfl, by simp⟩ (fun i x _ hi hx env g ⟨t2, t3, t4, t5, e, hg⟩ => by
      obtain ⟨w, hw, rfl⟩ := List.mem_map.mp hx
      subst e
      rw [List.length_map] at hi
      have h6 := hs.1
      obtain ⟨s3', g1⟩ := inner w g t3 t4 t5 hw (by omega)
      refine ⟨_, _, rfl, g1, _, _, _, _, rfl, ?_⟩
      have := fold_len (addEnd_len ws w) (List.range (w.length - 1)) g
      have := hs.2 w hw
      show ((List.range (w.length - 1)).foldl (addEnd ws w) g).length ≤ _
      rw [List.length_range] at *
      omega)
  have ef : (ws.map D.str).foldl (fun (g : List Str) d => match d with | .str w => (List.range (w.length - 1)).foldl (addEnd ws w) g | _ => g) [("" : Str)] = foundP ws := by
    rw [List.foldl_map]
    rfl
  rw [ef] at h2
  have h4 : lcE [4] (keysI (varE 1)) (nameG 4) yesT (cbE strF (consL (varE 4) nilL)) [.val (S ws), .val (.dct (kdsOf (foundP ws))), s2', s3', s4', s5'] = .ret (S ((foundP ws).filter fun _ => true)) :=
    lcE_strs (by show M.ret ((kdsOf (foundP ws)).map fun kv => keyD kv.1) = _; rw [keys_kds]) (by have := foundP_len hs; omega) fun s h => ⟨[.val (S ws), .val (.dct (kdsOf (foundP ws))), s2', s3', .val (.str s), s5'], rfl, rfl, fun _ => rfl⟩
  rw [List.filter_eq_self.mpr (fun _ _ => rfl)] at h4
  show (B_ends_of [.val (S ws), .no, .no, .no, .no, .no]).bind endD = _
  unfold B_ends_of
  rw [seqS_nx (env' := [.val (S ws), .own (.dct (kdsOf [("" : Str)])), .no, .no, .no, .no]) (by rfl)]
  rw [seqS_nx (env' := [.val (S ws), .own (.dct (kdsOf (foundP ws))), s2', s3', s4', s5']) (by rw [forS_ret (xs := ws.map D.str) rfl, h1, h2])]
  show (retS _ [.val (S ws), .val (.dct (kdsOf (foundP ws))), s2', s3', s4', s5']).bind endD = _
  rw [ret_end, cbE_ret (consL_ret h4 rfl), srtF_strs _ (by have := foundP_len hs; omega)]
  rfl
theorem leastP_mem {ws : List Str} {s : Str} (h : s ∈ leastP ws) : s ∈ ws := someP_mem.mp (List.mem_filter.mp h).1
theorem leastP_len (ws : List Str) : (leastP ws).length ≤ ws.length := Nat.le_trans (List.length_filter_le _ _) (someP_len ws)
theorem chain_ok {n : Nat} (h1 : 1 ≤ n) (h2 : n ≤ 6) {env : PEnv} {w : Str} (hv : varE 3 env = .ret (.str w)) (hn : w.length = n) : chainE leD leD (conE (.int 1)) (cbE lenF (consL (varE 3) nilL)) (conE (.int 6)) env = .ret (.bl true) := by
  have hl : cbE lenF (consL (varE 3) nilL) env = .ret (.int (w.length : Nat)) := by
    rw [cbE_ret (consL_ret hv rfl)]
    show M.ofO (if w.length ≤ 1000000 then some (D.int w.length) else none) = _
    rw [if_pos (by omega)]
    rfl
  unfold chainE
  show (cbE lenF (consL (varE 3) nilL) env).bind _ = _
  rw [hl, M.ret_bind]
  have e1 : leD (.int 1) (.int (w.length : Nat)) = some (.bl true) := by
    show some (D.bl (decide ((1 : Int) ≤ (w.length : Nat)))) = _
    rw [decide_eq_true (by omega)]
  have e2 : leD (.int (w.length : Nat)) (.int 6) = some (.bl true) := by
    show some (D.bl (decide (((w.length : Nat) : Int) ≤ 6))) = _
    rw [decide_eq_true (by omega)]
  rw [e1]
  show (M.ofO (leD (.int (w.length : Nat)) (.int 6))) = _
  rw [e2]
  rfl
theorem init_loop {sg : Str} {ws : List Str} {s0 s4 s5 : Slot} (hw : ∀ w ∈ ws, isText w sg = true ∧ 1 ≤ w.length ∧ w.length ≤ 6) : ∃ s3', forS (seqI (varE 2)) (nameG 3) (ifS (orT (notT (boolT (callE 2 F_is_text (consL (varE 3) (consL (varE 1) nilL))))) (notT (boolT (chainE leD leD (conE (.int 1)) (cbE lenF (consL (varE 3) nilL)) (conE (.int 6)))))) (fun _ => .fail) skipS) [s0, .val (.str sg), .val (.tup (ws.map D.str)), .no, s4, s5] = .ret (.nx, [s0, .val (.str sg), .val (.tup (ws.map D.str)), s3', s4, s5]) := by
  rw [forS_ret (xs := ws.map D.str) (by rfl)]
  obtain ⟨env', h1, s3', h2⟩ := forLoop_foldN (tg := nameG 3) (k := 0) (a := ()) (R := fun i env _ => ∃ s3, env = [s0, .val (.str sg), .val (.tup (ws.map D.str)), s3, s4, s5]) (step := fun _ _ => ()) (body := ifS (orT (notT (boolT (callE 2 F_is_text (consL (varE 3) (consL (varE 1) nilL))))) (notT (boolT (chainE leD leD (conE (.int 1)) (cbE lenF (consL (varE 3) nilL)) (conE (.int 6)))))) (fun _ => .fail) skipS) (xs := ws.map D.str) (env := [s0, .val (.str sg), .val (.tup (ws.map D.str)), .no, s4, s5]) ⟨.no, rfl⟩ (fun i x _ hi hx env _ ⟨t3, e⟩ => by
    obtain ⟨w, hm, rfl⟩ := List.mem_map.mp hx
    subst e
    obtain ⟨a1, a2, a3⟩ := hw w hm
    refine ⟨[s0, .val (.str sg), .val (.tup (ws.map D.str)), .val (.str w), s4, s5], _, rfl, ?_, .val (.str w), rfl⟩
    have e1 : callE 2 F_is_text (consL (varE 3) (consL (varE 1) nilL)) [s0, .val (.str sg), .val (.tup (ws.map D.str)), .val (.str w), s4, s5] = .ret (.bl true) := by
      have ea : consL (varE 3) (consL (varE 1) nilL) [s0, .val (.str sg), .val (.tup (ws.map D.str)), .val (.str w), s4, s5] = .ret [.str w, .str sg] := rfl
      exact (callE_ret ea rfl).trans (by rw [F_is_text_str (by omega), a1])
    rw [ifS_ret (orT_ret (notT_ret (boolT_ret e1)) (notT_ret (boolT_ret (chain_ok a2 a3 (by rfl) rfl))))]
    rfl)
  exact ⟨s3', by rw [h1, h2]⟩
theorem len_gt {ws : List Str} {m : Int} {i : Nat} {env : PEnv} (hv : varE i env = .ret (S ws)) (h : (ws.length : Int) ≤ m) : ifS (boolT (opE gtD (cbE lenF (consL (varE i) nilL)) (conE (.int m)))) (fun _ => .fail) skipS env = .ret (.nx, env) := by
  have hl : cbE lenF (consL (varE i) nilL) env = .ret (.int (ws.length : Nat)) := by
    rw [cbE_ret (consL_ret hv rfl)]
    show M.ret (D.int ((ws.map D.str).length : Nat)) = _
    rw [List.length_map]
  have e : opE gtD (cbE lenF (consL (varE i) nilL)) (conE (.int m)) env = .ret (.bl false) := by
    refine (opE_ret hl (by rfl)).trans ?_
    show M.ret (D.bl (decide (m < (ws.length : Nat)))) = _
    rw [decide_eq_false (by omega)]
  rw [ifS_ret (boolT_ret e)]
  rfl
theorem F_init {sg : Str} {ws : List Str} (hg : F_need_signs [.str sg] = .ret .non) (hw : ∀ w ∈ ws, isText w sg = true ∧ 1 ≤ w.length ∧ w.length ≤ 6) (hz : ws.length < 64) (hk : oks ws) (h6 : (leastP ws).length ≤ 6) (h16 : (endsP (leastP ws)).length ≤ 16) : F_Bars_init [.str sg, .tup (ws.map D.str)] = .ret (Bp sg (leastP ws) (endsP (leastP ws))) := by
  have hs : small (leastP ws) := ⟨h6, fun w h => (hw w (leastP_mem h)).2.2⟩
  obtain ⟨s3', hl⟩ := init_loop (s0 := .own (.ins "Bars" [])) (s4 := .no) (s5 := .no) hw
  have e0 : exprS (callE 1 F_need_signs (consL (varE 1) nilL)) [.own (.ins "Bars" []), .val (.str sg), .val (.tup (ws.map D.str)), .no, .no, .no] = .ret (.nx, [.own (.ins "Bars" []), .val (.str sg), .val (.tup (ws.map D.str)), .no, .no, .no]) := by
    have ea : consL (varE 1) nilL [.own (.ins "Bars" []), .val (.str sg), .val (.tup (ws.map D.str)), .no, .no, .no] = .ret [.str sg] := rfl
    unfold exprS
    have ec : callE 1 F_need_signs (consL (varE 1) nilL) [.own (.ins "Bars" []), .val (.str sg), .val (.tup (ws.map D.str)), .no, .no, .no] = .ret .non := (callE_ret ea rfl).trans hg
    rw [ec]
    rfl
  have e1 : callE 1 F_least_words (consL (varE 2) nilL) [.own (.ins "Bars" []), .val (.str sg), .val (.tup (ws.map D.str)), s3', .no, .no] = .ret (S (leastP ws)) := by
    have ea : consL (varE 2) nilL [.own (.ins "Bars" []), .val (.str sg), .val (.tup (ws.map D.str)), s3', .no, .no] = .ret [.tup (ws.map D.str)] := rfl
    exact (callE_ret ea rfl).trans (F_least_b hz hk)
  have e2 : callE 1 F_ends_of (consL (varE 4) nilL) [.own (.ins "Bars" []), .val (.str sg), .val (.tup (ws.map D.str)), s3', .val (S (leastP ws)), .no] = .ret (S (endsP (leastP ws))) := by
    have ea : consL (varE 4) nilL [.own (.ins "Bars" []), .val (.str sg), .val (.tup (ws.map D.str)), s3', .val (S (leastP ws)), .no] = .ret [S (leastP ws)] := rfl
    exact (callE_ret ea rfl).trans (F_ends_b hs)
  show (B_Bars_init [.own (.ins "Bars" []), .val (.str sg), .val (.tup (ws.map D.str)), .no, .no, .no]).bind endI = _
  unfold B_Bars_init
  rw [seqS_nx e0, seqS_nx hl, seqS_nx (asgS_name e1)]
  show (seqS _ _ [.own (.ins "Bars" []), .val (.str sg), .val (.tup (ws.map D.str)), s3', .val (S (leastP ws)), .no]).bind endI = _
  rw [seqS_nx (len_gt (ws := leastP ws) (m := 6) (by rfl) (by omega)), seqS_nx (asgS_name e2)]
  show (seqS _ _ [.own (.ins "Bars" []), .val (.str sg), .val (.tup (ws.map D.str)), s3', .val (S (leastP ws)), .val (S (endsP (leastP ws)))]).bind endI = _
  rw [seqS_nx (len_gt (ws := endsP (leastP ws)) (m := 16) (by rfl) (by omega))]
  rfl
theorem F_of {sg : Str} {ws : List Str} (hg : F_need_signs [.str sg] = .ret .non) (hw : ∀ w ∈ ws, isText w sg = true ∧ 1 ≤ w.length ∧ w.length ≤ 6) (hz : ws.length < 64) (hk : oks ws) (h6 : (leastP ws).length ≤ 6) (h16 : (endsP (leastP ws)).length ≤ 16) (d : D) (hd : d = S ws ∨ d = .tup (ws.map D.str)) : F_Bars_of [.str sg, d] = .ret (Bp sg (leastP ws) (endsP (leastP ws))) := by
  have e0 : exprS (callE 1 F_need_signs (consL (varE 0) nilL)) [.val (.str sg), .val d] = .ret (.nx, [.val (.str sg), .val d]) := by
    have ea : consL (varE 0) nilL [.val (.str sg), .val d] = .ret [.str sg] := rfl
    have ec : callE 1 F_need_signs (consL (varE 0) nilL) [.val (.str sg), .val d] = .ret .non := (callE_ret ea rfl).trans hg
    unfold exprS
    rw [ec]
    rfl
  have e1 : ifS (notT (boolT (un1 (isiF (tab2 ti_list ti_tuple)) (varE 1)))) (fun _ => .fail) skipS [.val (.str sg), .val d] = .ret (.nx, [.val (.str sg), .val d]) := by
    rw [ifS_ret (notT_ret (boolT_ret (k := true) (by rcases hd with rfl | rfl <;> rfl)))]
    rfl
  have e2 : consL (varE 0) (starL (varE 1) nilL) [.val (.str sg), .val d] = .ret (.str sg :: ws.map D.str) := by
    refine consL_ret (by rfl) ?_
    rcases hd with rfl | rfl
    · show M.ret (ws.map D.str ++ []) = _
      rw [List.append_nil]
    · show M.ret (ws.map D.str ++ []) = _
      rw [List.append_nil]
  show (B_Bars_of [.val (.str sg), .val d]).bind endD = _
  unfold B_Bars_of
  rw [seqS_nx e0, seqS_nx e1, ret_end]
  unfold callSE
  rw [e2, M.ret_bind, if_pos (by
    rw [Bool.and_eq_true]
    exact ⟨by simp, decide_eq_true (by simp; omega)⟩)]
  exact F_init hg hw hz hk h6 h16
end K00

set_option Elab.async false
set_option linter.all false
set_option maxRecDepth 100000
set_option maxHeartbeats 4000000
/-! The data layer: programs that draw at most so often, and how they end. -/
namespace DL
open PySem
/-- m draws at most d times; it ends in a value of which R holds -/
structure Al {α : Type} (R : α → Prop) (d : Nat) (m : M α) : Prop where
  run : ∀ n, d ≤ n → m.All (fun a n' => R a ∧ n ≤ n' + d) (fun _ _ _ => False) n
section
variable {α β : Type} {R R' : α → Prop} {S : β → Prop} {d e : Nat}
theorem Al.ret {a : α} (h : R a) : Al R 0 (.ret a) := ⟨fun n _ => ⟨h, Nat.le_refl _⟩⟩
theorem Al.eq {m : M α} {a : α} (e : m = .ret a) (h : R a) : Al R 0 m := e ▸ Al.ret h
theorem Al.bind {m : M α} {f : α → M β} (h1 : Al R d m) (h2 : ∀ a, R a → Al S e (f a)) : Al S (d + e) (m.bind f) := ⟨fun n hn => by
  refine M.bind_all (M.all_mono (h1.run n (by omega)) (fun a k _ ⟨ra, hk⟩ => ?_) fun _ _ _ _ z => z)
  exact M.all_mono ((h2 a ra).run k (by omega)) (fun b j _ ⟨sb, hj⟩ => ⟨sb, by omega⟩) fun _ _ _ _ z => z⟩
theorem Al.mono {m : M α} (h : Al R d m) (hr : ∀ a, R a → R' a) (hd : d ≤ e) : Al R' e m := ⟨fun n hn =>
  M.all_mono (h.run n (by omega)) (fun a k _ ⟨ra, hk⟩ => ⟨hr a ra, by omega⟩) fun _ _ _ _ z => z⟩
theorem Al.draw {k : Nat} {g : Nat → M α} (h : ∀ i, i < k → Al R d (g i)) : Al R (d + 1) (.draw k g) := ⟨fun n hn =>
  ⟨n - 1, by omega, fun i hi => M.all_mono ((h i hi).run (n - 1) (by omega)) (fun a j _ ⟨ra, hj⟩ => ⟨ra, by omega⟩) fun _ _ _ _ z => z⟩⟩
theorem Al.nor {m : M α} (h : Al R d m) : Al R d m.nor := by
  have key : ∀ {P : α → Nat → Prop} (m : M α) (n : Nat), m.All P (fun _ _ _ => False) n → m.nor.All P (fun _ _ _ => False) n := by
    intro P m
    induction m with
    | ret a => intro n h; exact h
    | draw k g ih => intro n ⟨n', e, h⟩; exact ⟨n', e, fun i hi => ih i n' (h i hi)⟩
    | raise c fs => intro n h; exact h.elim
    | fail => intro n h; exact h
  exact ⟨fun n hn => key m n (h.run n hn)⟩
end
section
variable {R S T : D → Prop} {RL : List D → Prop} {d e : Nat} {A B F : SE} {L : SL} {env : PEnv}
theorem opE_al {f : D → D → Option D} (h1 : Al R d (A env)) (h2 : Al S e (B env)) (h : ∀ x y, R x → S y → ∃ c, f x y = some c ∧ T c) : Al T (d + e) (opE f A B env) := by
  refine Al.bind h1 fun x rx => ?_
  refine Al.mono (Al.bind h2 fun y ry => ?_) (fun _ z => z) (Nat.le_refl (e + 0))
  obtain ⟨c, ec, tc⟩ := h x y rx ry
  exact Al.eq (by rw [ec]; rfl) tc
theorem nilL_al : Al (fun l => l = []) 0 (nilL env) := Al.ret rfl
theorem consL_al (h1 : Al R d (A env)) (h2 : Al RL e (L env)) : Al (fun l => ∃ x xs, l = x :: xs ∧ R x ∧ RL xs) (d + e) (consL A L env) := by
  refine Al.bind h1 fun x rx => ?_
  refine Al.mono (Al.bind h2 fun xs rxs => Al.ret (R := fun l => ∃ x xs, l = x :: xs ∧ R x ∧ RL xs) ⟨x, xs, rfl, rx, rxs⟩) (fun _ z => z) (Nat.le_refl (e + 0))
theorem callE_al {m : Nat} {Fn : DL.Fn} (h1 : Al RL d (L env)) (h2 : ∀ ds, RL ds → ds.length = m ∧ Al T e (Fn ds)) : Al T (d + e) (callE m Fn L env) := by
  refine Al.bind h1 fun ds rl => ?_
  obtain ⟨hl, h⟩ := h2 ds rl
  unfold lenL
  rw [if_pos hl]
  exact h
theorem callE_to {m : Nat} {Fn : DL.Fn} {ds : List D} (h1 : L env = .ret ds) (hl : ds.length = m) (h2 : Al T e (Fn ds)) : Al T e (callE m Fn L env) := by
  rw [callE_ret h1 hl]
  exact h2
theorem cbE_al {f : List D → Option D} (h1 : Al RL d (L env)) (h2 : ∀ ds, RL ds → ∃ c, f ds = some c ∧ T c) : Al T d (cbE f L env) := by
  refine Al.mono (Al.bind h1 fun ds rl => ?_) (fun _ z => z) (Nat.le_refl (d + 0))
  obtain ⟨c, ec, tc⟩ := h2 ds rl
  exact Al.eq (by rw [ec]; rfl) tc
theorem lcLoop_al {tg : TgS} {ifs : ST} {elt : SE} : ∀ {xs : List D}, (∀ x ∈ xs, ∃ env1, tg x env = some env1 ∧ ifs env1 = .ret true ∧ Al R d (elt env1)) → Al (fun ys => ys.length = xs.length ∧ ∀ y ∈ ys, R y) (xs.length * d) (lcLoop tg ifs elt env xs)
  | [], _ => Al.mono (Al.ret (R := fun (ys : List D) => ys.length = 0 ∧ ∀ y ∈ ys, R y) ⟨rfl, by simp⟩) (fun _ z => z) (Nat.zero_le _)
  | x :: xs, h => by
    obtain ⟨env1, h1, h2, h3⟩ := h x List.mem_cons_self
    have ih := lcLoop_al (xs := xs) fun y hy => h y (List.mem_cons_of_mem _ hy)
    unfold lcLoop
    rw [h1, M.some_bind, h2, M.ret_bind, if_pos rfl]
    refine Al.mono (Al.bind h3 fun y ry => Al.bind ih fun ys rys => Al.ret (R := fun (ys : List D) => ys.length = (x :: xs).length ∧ ∀ y ∈ ys, R y) ⟨by simp [rys.1], ?_⟩) (fun _ z => z) (show d + (xs.length * d + 0) ≤ (xs.length + 1) * d by rw [Nat.succ_mul]; omega)
    intro z hz
    rcases List.mem_cons.mp hz with rfl | hz
    · exact ry
    · exact rys.2 z hz
/-- a comprehension whose items draw -/
theorem lcE_al {own : List Nat} {it : SL} {tg : TgS} {ifs : ST} {elt : SE} {m n : Nat} (hi : Al (fun xs => xs.length ≤ n ∧ RL xs) m (it env)) (hz : n ≤ 1000000) (h : ∀ xs, RL xs → ∀ x ∈ xs, ∃ env1, tg x (wipeE env own) = some env1 ∧ ifs env1 = .ret true ∧ Al R d (elt env1)) :
    Al (fun l => ∃ xs ys, RL xs ∧ l = .lst ys ∧ ys.length = xs.length ∧ ∀ y ∈ ys, R y) (m + n * d) (lcE own it tg ifs elt env) := by
  unfold lcE lcL
  refine Al.mono (Al.bind (S := fun l => ∃ xs ys, RL xs ∧ l = .lst ys ∧ ys.length = xs.length ∧ ∀ y ∈ ys, R y) (Al.bind (S := fun ys => ∃ xs, RL xs ∧ ys.length = xs.length ∧ ∀ y ∈ ys, R y) (e := n * d) hi fun xs rx => ?_) fun ys ⟨xs, h1, h2, h3⟩ => Al.ret ⟨xs, ys, h1, rfl, h2, h3⟩) (fun _ z => z) (Nat.le_refl (m + n * d + 0))
  rw [if_pos (show sizeOk xs = true from decide_eq_true (Nat.le_trans rx.1 hz))]
  exact Al.mono (Al.nor (lcLoop_al (h xs rx.2))) (fun ys z => ⟨xs, rx.2, z⟩) (Nat.mul_le_mul_right _ rx.1)
theorem asg_al {i : Nat} {B : SS} {T : Fl × PEnv → Prop} (h1 : Al R d (F env)) (h2 : ∀ x, R x → Al T e (B (env.set i (.val x)))) : Al T (d + e) (seqS (asgS (nameG i) F) B env) := by
  unfold seqS asgS
  rw [M.bind_bind]
  exact Al.bind h1 fun x rx => h2 x rx
theorem seq_al {A B : SS} {I : PEnv → Prop} {T : Fl × PEnv → Prop} (h1 : Al (fun r => r.1 = .nx ∧ I r.2) d (A env)) (h2 : ∀ env', I env' → Al T e (B env')) : Al T (d + e) (seqS A B env) := by
  unfold seqS
  refine Al.bind h1 fun r ⟨h, i⟩ => ?_
  obtain ⟨f, env'⟩ := r
  have h : f = .nx := h
  subst h
  exact h2 env' i
theorem forLoop_al {I : PEnv → Prop} {tg : TgS} {body : SS} : ∀ {xs : List D} {env : PEnv}, (∀ x ∈ xs, ∀ env, I env → ∃ env1, tg x env = some env1 ∧ Al (fun r => r.1 = .nx ∧ I r.2) d (body env1)) → I env → Al (fun r => r.1 = .nx ∧ I r.2) (xs.length * d) (forLoop tg body xs env)
  | [], env, _, h => Al.mono (Al.ret (R := fun r : Fl × PEnv => r.1 = .nx ∧ I r.2) ⟨rfl, h⟩) (fun _ z => z) (Nat.zero_le _)
  | x :: xs, env, h, hi => by
    obtain ⟨env1, h1, h2⟩ := h x List.mem_cons_self env hi
    unfold forLoop
    rw [h1, M.some_bind]
    refine Al.mono (Al.bind h2 fun r ⟨e, i⟩ => ?_) (fun _ z => z) (show d + xs.length * d ≤ (xs.length + 1) * d by rw [Nat.succ_mul]; omega)
    obtain ⟨f, env'⟩ := r
    have e : f = .nx := e
    subst e
    exact forLoop_al (fun y hy => h y (List.mem_cons_of_mem _ hy)) i
/-- a def that ends by a return -/
theorem run_al {m : Nat} {A : SS} {ds : List D} (h : Al (fun r => ∃ x, r.1 = .rt x ∧ R x) d (A (envOf m ds))) : Al R d (runS m A ds) := by
  refine Al.mono (Al.bind h fun r ⟨x, e, rx⟩ => ?_) (fun _ z => z) (Nat.le_refl (d + 0))
  obtain ⟨f, env'⟩ := r
  have e : f = .rt x := e
  subst e
  exact Al.ret rx
theorem ret_al (h : Al R d (F env)) : Al (fun r => ∃ x, r.1 = .rt x ∧ R x) d (retS F env) := by
  unfold retS
  refine Al.mono (Al.bind h fun x rx => Al.ret (R := fun r : Fl × PEnv => ∃ x, r.1 = .rt x ∧ R x) ⟨x, rfl, rx⟩) (fun _ z => z) (Nat.le_refl (d + 0))
theorem Al.all {α : Type} {m : M α} {R : α → Prop} {P : α → Nat → Prop} {n : Nat} (h : Al R d m) (hd : d ≤ n) (hp : ∀ a k, R a → P a k) : m.All P (fun _ _ _ => False) n :=
  M.all_mono (h.run n hd) (fun a k _ z => hp a k z.1) fun _ _ _ _ z => z
end
end DL

set_option Elab.async false
set_option linter.all false
set_option maxRecDepth 100000
set_option maxHeartbeats 40000000
/-! k00: the draws, and the law. -/
namespace K00
open PySem DL
def sgs : List Str := ["01", "ab", "019", "xyz", "0abz"]
theorem draw_al {m : Nat} (h0 : 0 < m) (h1 : m < 1073741824) : Al (fun d => ∃ i : Nat, i < m ∧ d = .int (i : Int)) 1 (F__law_draw [.pen, .int (m : Nat)]) := by
  have e : F__law_draw [.pen, .int (m : Nat)] = .draw m fun i => .ret (D.int (i : Int)) := by
    show (if 0 < (m : Int) ∧ (m : Int) < 1073741824 then M.draw ((m : Int)).toNat fun i => .ret (D.int (i : Int)) else .fail) = _
    rw [if_pos ⟨by omega, by omega⟩, Int.toNat_natCast]
  rw [e]
  exact Al.draw (d := 0) fun i hi => Al.ret ⟨i, hi, rfl⟩
theorem ixD_lst' {l : List D} {i : Nat} (h : i < l.length) : ixD (.lst l) (.int (i : Nat)) = some l[i] := by
  unfold ixD ixS ixL
  show (none : Option D).or ((L2.atI l (i : Int)).or _) = _
  rw [atI_at h]
  rfl
theorem ixD_tup' {l : List D} {i : Nat} (h : i < l.length) : ixD (.tup l) (.int (i : Nat)) = some l[i] := by
  unfold ixD ixS ixL
  show (none : Option D).or ((L2.atI l (i : Int)).or _) = _
  rw [atI_at h]
  rfl
theorem ixD_str' {t : Str} {i : Nat} (h : i < t.cps.toList.length) (hz : t.length ≤ 1000000) : ixD (.str t) (.int (i : Nat)) = some (.str ⟨#[t.cps.toList[i]]⟩) := by
  unfold ixD ixS
  show (if t.length ≤ 1000000 then (L2.atI t.cps.toList (i : Int)).map fun c => D.str ⟨#[c]⟩ else none).or _ = _
  rw [if_pos hz, atI_at h]
  rfl
theorem pick_al {x : D} {n : Nat} {R : D → Prop} (hl : lenF [x] = some (.int (n : Nat))) (h0 : 0 < n) (h1 : n < 1073741824) (h : ∀ i, i < n → ∃ c, ixD x (.int (i : Nat)) = some c ∧ R c) : Al R 1 (F__law_pick [.pen, x]) := by
  have hd : Al (fun d => ∃ i : Nat, i < n ∧ d = .int (i : Int)) 1 (callE 2 F__law_draw (consL (varE 0) (consL (cbE lenF (consL (varE 1) nilL)) nilL)) [.val .pen, .val x]) := by
    have ea : consL (varE 0) (consL (cbE lenF (consL (varE 1) nilL)) nilL) [.val .pen, .val x] = .ret [.pen, .int (n : Nat)] := by
      refine consL_ret rfl (consL_ret ?_ rfl)
      rw [cbE_ret (consL_ret rfl rfl), hl]
      rfl
    refine callE_to ea rfl ?_
    exact draw_al h0 h1
  refine run_al (m := 2) (A := B__law_pick) (d := 1) ?_
  show Al _ 1 (B__law_pick [.val .pen, .val x])
  unfold B__law_pick
  refine ret_al ?_
  exact Al.mono (opE_al (R := fun y => y = x) (d := 0) (Al.eq rfl rfl) hd fun a b ea eb => by
    obtain ⟨i, hi, rfl⟩ := eb
    subst ea
    exact h i hi) (fun _ z => z) (by omega)
theorem pick_lst {l : List D} (h0 : 0 < l.length) (h1 : l.length < 1073741824) : Al (fun d => d ∈ l) 1 (F__law_pick [.pen, .lst l]) :=
  pick_al (n := l.length) rfl h0 h1 fun i hi => ⟨_, ixD_lst' hi, List.getElem_mem hi⟩
theorem pick_tup {l : List D} (h0 : 0 < l.length) (h1 : l.length < 1073741824) : Al (fun d => d ∈ l) 1 (F__law_pick [.pen, .tup l]) :=
  pick_al (n := l.length) rfl h0 h1 fun i hi => ⟨_, ixD_tup' hi, List.getElem_mem hi⟩
theorem pick_str {t : Str} (h0 : 0 < t.length) (h1 : t.length ≤ 1000000) : Al (fun d => ∃ c ∈ t.cps.toList, d = .str ⟨#[c]⟩) 1 (F__law_pick [.pen, .str t]) :=
  pick_al (n := t.length) (by
    show (if t.length ≤ 1000000 then some (D.int t.length) else none) = _
    rw [if_pos h1]) h0 (by omega) fun i hi => ⟨_, ixD_str' (i := i) hi h1, _, List.getElem_mem (h := hi), rfl⟩
/-- a text of signs -/
structure Tx (sg : Str) (a b : Nat) (t : Str) : Prop where
  is : isText t sg = true
  ok : PyData.strOk t = true
  lo : a ≤ t.length
  hi : t.length ≤ b
theorem sg_facts : ∀ sg ∈ sgs, (sg.cps.toList.all fun c => hasSub ⟨#[c]⟩ sg && decide (c < 1114112)) = true ∧ PyData.strOk sg = true ∧ 0 < sg.length ∧ sg.length ≤ 10 := by
  intro sg h
  simp only [sgs, List.mem_cons, List.not_mem_nil, or_false] at h
  rcases h with rfl | rfl | rfl | rfl | rfl <;> exact ⟨by decide +kernel, by decide +kernel, by decide +kernel, by decide +kernel⟩
theorem tx_of {sg : Str} (hs : sg ∈ sgs) {cs : List Nat} (h : ∀ c ∈ cs, c ∈ sg.cps.toList) : Tx sg cs.length cs.length ⟨cs.toArray⟩ := by
  have f := sg_facts sg hs
  have f1 := List.all_eq_true.mp f.1
  refine ⟨?_, ?_, ?_, ?_⟩
  · unfold isText chars
    rw [List.all_map, List.all_eq_true]
    intro c hc
    have hc : c ∈ cs := by simpa using hc
    have := f1 c (h c hc)
    rw [Bool.and_eq_true] at this
    exact this.1
  · unfold PyData.strOk
    rw [← Array.all_toList, List.all_eq_true]
    intro c hc
    have hc : c ∈ cs := by simpa using hc
    have := f1 c (h c hc)
    rw [Bool.and_eq_true] at this
    exact this.2
  · show _ ≤ cs.toArray.size
    simp
  · show cs.toArray.size ≤ _
    simp
theorem join_chars : ∀ (cs : List Nat), Str.join "" (cs.map fun c => (⟨#[c]⟩ : Str)) = ⟨cs.toArray⟩
  | [] => rfl
  | [c] => rfl
  | c :: d :: r => by
    have ih := join_chars (d :: r)
    show (⟨#[c]⟩ : Str) ++ "" ++ Str.join "" (List.map (fun c => (⟨#[c]⟩ : Str)) (d :: r)) = _
    rw [ih]
    show (⟨(#[c] ++ #[]) ++ (d :: r).toArray⟩ : Str) = _
    congr 1
    apply Array.ext'
    simp
theorem singles {sg : Str} : ∀ {ys : List D}, (∀ y ∈ ys, ∃ c ∈ sg.cps.toList, y = .str ⟨#[c]⟩) → ∃ cs : List Nat, ys = cs.map (fun c => D.str ⟨#[c]⟩) ∧ ∀ c ∈ cs, c ∈ sg.cps.toList
  | [], _ => ⟨[], rfl, by simp⟩
  | y :: ys, h => by
    obtain ⟨c, hc, rfl⟩ := h y List.mem_cons_self
    obtain ⟨cs, e, h2⟩ := singles (ys := ys) fun z hz => h z (List.mem_cons_of_mem _ hz)
    refine ⟨c :: cs, by rw [e]; rfl, fun x hx => ?_⟩
    rcases List.mem_cons.mp hx with rfl | hx
    · exact hc
    · exact h2 x hx
theorem sum_ones (cs : List Nat) : ((cs.map fun c => (⟨#[c]⟩ : Str)).map (·.length)).sum = cs.length := by
  induction cs with
  | nil => rfl
  | cons c r ih =>
    rw [List.map_cons, List.map_cons, List.sum_cons, ih, List.length_cons]
    show 1 + r.length = _
    omega
theorem word_al {sg : Str} (hs : sg ∈ sgs) {a b : Nat} (hab : a ≤ b) (hb : b ≤ 100) : Al (fun d => ∃ t, d = .str t ∧ Tx sg a b t) (1 + b) (F__law_word [.pen, .str sg, .int (a : Nat), .int (b : Nat)]) := by
  have f := sg_facts sg hs
  have hr : Al (fun xs => xs.length ≤ b ∧ ∃ n : Nat, a ≤ n ∧ n ≤ b ∧ xs = (List.range n).map fun i => D.int (0 + (i : Nat))) 1 (rng1I (consL (opE addD (varE 2) (callE 2 F__law_draw (consL (varE 0) (consL (opE addD (opE subI (varE 3) (varE 2)) (conE (.int 1))) nilL)))) nilL) [.val .pen, .val (.str sg), .val (.int (a : Nat)), .val (.int (b : Nat)), .no]) := by
    have ea : consL (varE 0) (consL (opE addD (opE subI (varE 3) (varE 2)) (conE (.int 1))) nilL) [.val .pen, .val (.str sg), .val (.int (a : Nat)), .val (.int (b : Nat)), .no] = .ret [.pen, .int ((b - a + 1 : Nat) : Int)] := by
      refine consL_ret rfl (consL_ret ?_ rfl)
      show M.ret (D.int (((b : Nat) : Int) - (a : Nat) + 1)) = _
      congr 2
      omega
    have hd : Al (fun d => ∃ i : Nat, i < b - a + 1 ∧ d = .int (i : Int)) 1 (callE 2 F__law_draw (consL (varE 0) (consL (opE addD (opE subI (varE 3) (varE 2)) (conE (.int 1))) nilL)) [.val .pen, .val (.str sg), .val (.int (a : Nat)), .val (.int (b : Nat)), .no]) := by
      refine callE_to ea rfl ?_
      exact draw_al (by omega) (by omega)
    have hl : Al (fun l => ∃ x xs, l = x :: xs ∧ (∃ n : Nat, a ≤ n ∧ n ≤ b ∧ x = .int (n : Nat)) ∧ xs = []) 1 (consL (opE addD (varE 2) (callE 2 F__law_draw (consL (varE 0) (consL (opE addD (opE subI (varE 3) (varE 2)) (conE (.int 1))) nilL)))) nilL [.val .pen, .val (.str sg), .val (.int (a : Nat)), .val (.int (b : Nat)), .no]) :=
      Al.mono (consL_al (opE_al (R := fun y => y = .int (a : Nat)) (T := fun x => ∃ n : Nat, a ≤ n ∧ n ≤ b ∧ x = .int (n : Nat)) (d := 0) (Al.eq rfl rfl) hd fun x y ex ⟨i, hi, ey⟩ => by
        subst ex ey
        exact ⟨_, rfl, a + i, by omega, by omega, by simp⟩) nilL_al) (fun _ z => z) (by omega)
    unfold rng1I
    refine Al.mono (Al.bind hl fun l ⟨x, xs, e, ⟨n, h1, h2, ex⟩, exs⟩ => ?_) (fun _ z => z) (Nat.le_refl (1 + 0))
    subst e ex exs
    dsimp only
    have es : small62 (n : Int) = true := by
      unfold small62
      rw [Bool.and_eq_true, decide_eq_true_iff, decide_eq_true_iff]
      have h1 : (0 : Int) ≤ (n : Int) := Int.natCast_nonneg n
      have h2 : (n : Int) ≤ 1000000 := by omega
      exact ⟨Int.le_trans (by decide) h1, Int.lt_of_le_of_lt h2 (by decide)⟩
    rw [if_pos es, Int.toNat_natCast]
    exact Al.ret ⟨by simpa using h2, n, h1, h2, rfl⟩
  have hc : Al (fun l => ∃ xs ys, (∃ n : Nat, a ≤ n ∧ n ≤ b ∧ xs = (List.range n).map fun i => D.int (0 + (i : Nat))) ∧ l = .lst ys ∧ ys.length = xs.length ∧ ∀ y ∈ ys, ∃ c ∈ sg.cps.toList, y = .str ⟨#[c]⟩) (1 + b * 1) (lcE [4] (rng1I (consL (opE addD (varE 2) (callE 2 F__law_draw (consL (varE 0) (consL (opE addD (opE subI (varE 3) (varE 2)) (conE (.int 1))) nilL)))) nilL)) (nameG 4) yesT (callE 2 F__law_pick (consL (varE 0) (consL (varE 1) nilL))) [.val .pen, .val (.str sg), .val (.int (a : Nat)), .val (.int (b : Nat)), .no]) :=
    lcE_al hr (by omega) fun xs _ x hx => ⟨[.val .pen, .val (.str sg), .val (.int (a : Nat)), .val (.int (b : Nat)), .val x], rfl, rfl, by
      have ea : consL (varE 0) (consL (varE 1) nilL) [.val .pen, .val (.str sg), .val (.int (a : Nat)), .val (.int (b : Nat)), .val x] = .ret [.pen, .str sg] := rfl
      refine callE_to ea rfl ?_
      exact pick_str f.2.2.1 (by omega)⟩
  refine run_al (m := 5) (A := B__law_word) (d := 1 + b) ?_
  show Al _ _ (B__law_word [.val .pen, .val (.str sg), .val (.int (a : Nat)), .val (.int (b : Nat)), .no])
  unfold B__law_word
  refine ret_al ?_
  refine Al.mono (Al.bind (e := 0) hc fun l ⟨xs, ys, ⟨n, h1, h2, e1⟩, e2, e3, h3⟩ => ?_ : Al (fun d => ∃ t, d = .str t ∧ Tx sg a b t) _ _) (fun _ z => z) (by omega)
  obtain ⟨cs, e4, h4⟩ := singles h3
  subst e2
  have hlen : cs.length = n := by rw [e4, e1] at e3; simpa using e3
  have tx := tx_of hs h4
  refine Al.eq (a := .str ⟨cs.toArray⟩) ?_ ⟨_, rfl, tx.is, tx.ok, by have := tx.lo; omega, by have := tx.hi; omega⟩
  show M.ofO (joinF (.str "") [.lst ys]) = _
  have ej : joinF (.str "") [.lst ys] = some (.str ⟨cs.toArray⟩) := by
    show (allS ys).bind _ = _
    rw [e4, show (cs.map fun c => D.str ⟨#[c]⟩) = (cs.map fun c => (⟨#[c]⟩ : Str)).map D.str from by rw [List.map_map]; rfl, allS_strs, Option.bind_some, sum_ones, if_pos (by
      show _ + _ * 0 ≤ _
      omega), TL.join_eq, join_chars]
  rw [ej]
  rfl
theorem ev_call {m : Nat} {Fn : DL.Fn} {L : SL} {env : PEnv} {ds : List D} {r : M D} (h : L env = .ret ds) (hl : ds.length = m) (hf : Fn ds = r) : callE m Fn L env = r := (callE_ret h hl).trans hf
theorem ev_op {f : D → D → Option D} {A B : SE} {env : PEnv} {x y z : D} (h1 : A env = .ret x) (h2 : B env = .ret y) (h3 : f x y = some z) : opE f A B env = .ret z := by
  rw [opE_ret h1 h2, h3]
  rfl
theorem ev_opM {F : D → D → M D} {A B : SE} {env : PEnv} {x y : D} {r : M D} (h1 : A env = .ret x) (h2 : B env = .ret y) (h3 : F x y = r) : opM F A B env = r := by
  unfold opM
  rw [h1, M.ret_bind, h2, M.ret_bind, h3]
theorem ev_cb {f : List D → Option D} {L : SL} {env : PEnv} {xs : List D} {z : D} (h1 : L env = .ret xs) (h3 : f xs = some z) : cbE f L env = .ret z := by
  rw [cbE_ret h1, h3]
  rfl
theorem ev_if {T : ST} {A B : SS} {env : PEnv} {k : Bool} {r : M (Fl × PEnv)} (h : T env = .ret k) (ht : k = true → A env = r) (hf : k = false → B env = r) : ifS T A B env = r := by
  rw [ifS_ret h]
  cases k with
  | true => rw [if_pos rfl]; exact ht rfl
  | false => rw [if_neg (by simp)]; exact hf rfl
theorem nx_al {A B : SS} {env env' : PEnv} {T : Fl × PEnv → Prop} {d : Nat} (h : A env = .ret (.nx, env')) (h2 : Al T d (B env')) : Al T d (seqS A B env) := by
  rw [seqS_nx h]
  exact h2
theorem skip_if {T : ST} {A : SS} {env : PEnv} (h : T env = .ret false) : ifS T A skipS env = .ret (.nx, env) := ev_if h (fun z => by cases z) fun _ => rfl
theorem and_false {A B : ST} {env : PEnv} (h : A env = .ret false) : andT A B env = .ret false := by
  unfold andT
  rw [h]
  rfl
theorem or_ff {A B : ST} {env : PEnv} (h1 : A env = .ret false) (h2 : B env = .ret false) : orT A B env = .ret false := orT_ret h1 h2
theorem oin_v {c : Str} {x : D} {fs : List (Str × D)} {Fn : DL.Fn} {k : Bool} (h : Fn [.ins c fs, x] = .ret (.bl k)) : oinF c false 2 Fn x (.ins c fs) = .ret (.bl k) := by
  show (if c = c then (lenL 2 [D.ins c fs, x] (Fn [.ins c fs, x])).bind (blM false) else .fail) = _
  rw [if_pos rfl, h]
  rfl
theorem oeq_v {c : Str} {neg : Bool} {tab : Sum String Str → Bool} {y : D} {fs : List (Str × D)} {Fn : DL.Fn} {k : Bool} (ht : tab (tyOf y) = true) (h : Fn [.ins c fs, y] = .ret (.bl k)) : oeqF c neg tab 2 Fn (.ins c fs) y = .ret (.bl (if neg then !k else k)) := by
  show (if c = c ∧ tab (tyOf y) = true then (lenL 2 [D.ins c fs, y] (Fn [.ins c fs, y])).bind (blM neg) else .fail) = _
  rw [if_pos ⟨rfl, ht⟩, h]
  rfl
theorem methK_v {m : Str} {n kn : Nat} {is : List Nat} {Fn : DL.Fn} {R : SE} {L : SL} {env : PEnv} {sg : Str} {ws es : List Str} {ds : List D} {r : M D} (h1 : R env = .ret (Bp sg ws es)) (h2 : L env = .ret ds) (hm : ([("signs", .str sg), ("words", .tup (ws.map D.str)), ("ends", .tup (es.map D.str))] : List (Str × D)).lookup m = none) (hl : ds.length = kn) (hn : (permL is (Bp sg ws es :: ds)).length = n) (h : Fn (permL is (Bp sg ws es :: ds)) = r) : methKE "Bars" m n kn is Fn R L env = r := by
  unfold methKE
  rw [h1, M.ret_bind]
  show (if ("Bars" : Str) = "Bars" ∧ _ = none then (L env).bind _ else M.fail) = _
  rw [if_pos ⟨rfl, hm⟩, h2, M.ret_bind]
  unfold lenL
  rw [if_pos hl, if_pos hn, h]
theorem words_of {sg : Str} {a b : Nat} : ∀ {ys : List D}, (∀ y ∈ ys, ∃ t, y = .str t ∧ Tx sg a b t) → ∃ ws : List Str, ys = ws.map D.str ∧ ∀ w ∈ ws, Tx sg a b w
  | [], _ => ⟨[], rfl, by simp⟩
  | y :: ys, h => by
    obtain ⟨c, rfl, hc⟩ := h y List.mem_cons_self
    obtain ⟨cs, e, h2⟩ := words_of (ys := ys) fun z hz => h z (List.mem_cons_of_mem _ hz)
    refine ⟨c :: cs, by rw [e]; rfl, fun x hx => ?_⟩
    rcases List.mem_cons.mp hx with rfl | hx
    · exact hc
    · exact h2 x hx
theorem Tx.mono {sg t : Str} {a b a' b' : Nat} (h : Tx sg a b t) (h1 : a' ≤ a) (h2 : b ≤ b') : Tx sg a' b' t := ⟨h.is, h.ok, Nat.le_trans h1 h.lo, Nat.le_trans h.hi h2⟩
/-- words as they are drawn -/
structure Drawn (sg : Str) (ws : List Str) : Prop where
  hs : sg ∈ sgs
  tx : ∀ w ∈ ws, Tx sg 1 6 w
  len : ws.length ≤ 5
theorem Drawn.oks {sg : Str} {ws : List Str} (h : Drawn sg ws) : oks ws := fun w hw => (h.tx w hw).ok
theorem Drawn.small {sg : Str} {ws : List Str} (h : Drawn sg ws) : small (leastP ws) := ⟨by have := leastP_len ws; have := h.len; omega, fun w hw => (h.tx w (leastP_mem hw)).hi⟩
theorem least_oks {ws : List Str} (h : oks ws) : oks (leastP ws) := fun w hw => h w (leastP_mem hw)
theorem some_bars_al : Al (fun d => ∃ sg ws, d = .tup [.str sg, S ws] ∧ Drawn sg ws) 40 (F__law_some_bars [.pen]) := by
  refine run_al (m := 4) (A := B__law_some_bars) ?_
  show Al _ 40 (B__law_some_bars [.val .pen, .no, .no, .no])
  unfold B__law_some_bars
  have h1 : Al (fun d => ∃ sg ∈ sgs, d = .str sg) 1 (callE 2 F__law_pick (consL (varE 0) (consL (lstE (consL (conE (.str "01")) (consL (conE (.str "ab")) (consL (conE (.str "019")) (consL (conE (.str "xyz")) (consL (conE (.str "0abz")) nilL)))))) nilL)) [.val .pen, .no, .no, .no]) := by
    have ea : consL (varE 0) (consL (lstE (consL (conE (.str "01")) (consL (conE (.str "ab")) (consL (conE (.str "019")) (consL (conE (.str "xyz")) (consL (conE (.str "0abz")) nilL)))))) nilL) [.val .pen, .no, .no, .no] = .ret [.pen, S sgs] := by kernel_rfl
    refine callE_to ea rfl ?_
    exact Al.mono (pick_lst (l := sgs.map D.str) (by decide) (by decide)) (fun d h => by
      obtain ⟨sg, h1, h2⟩ := List.mem_map.mp h
      exact ⟨sg, h1, h2.symm⟩) (Nat.le_refl _)
  refine Al.mono (asg_al (e := 39) h1 fun d ⟨sg, hs, ed⟩ => ?_) (fun _ z => z) (Nat.le_refl 40)
  subst ed
  show Al _ 39 ((seqS _ _) [.val .pen, .val (.str sg), .no, .no])
  have hr : Al (fun xs => xs.length ≤ 4 ∧ xs.length ≤ 4) 1 (rng1I (consL (callE 2 F__law_draw (consL (varE 0) (consL (conE (.int 5)) nilL))) nilL) [.val .pen, .val (.str sg), .no, .no]) := by
    have ea : consL (varE 0) (consL (conE (.int 5)) nilL) [.val .pen, .val (.str sg), .no, .no] = .ret [.pen, .int ((5 : Nat) : Int)] := rfl
    have hd : Al (fun d => ∃ i : Nat, i < 5 ∧ d = .int (i : Int)) 1 (callE 2 F__law_draw (consL (varE 0) (consL (conE (.int 5)) nilL)) [.val .pen, .val (.str sg), .no, .no]) := by
      refine callE_to ea rfl ?_
      exact draw_al (by omega) (by omega)
    unfold rng1I
    refine Al.mono (Al.bind (consL_al hd nilL_al) fun l ⟨x, xs, e, ⟨n, h1, ex⟩, exs⟩ => ?_) (fun _ z => z) (Nat.le_refl (1 + 0 + 0))
    subst e ex exs
    dsimp only
    have es : small62 (n : Int) = true := by
      unfold small62
      rw [Bool.and_eq_true, decide_eq_true_iff, decide_eq_true_iff]
      have h1 : (0 : Int) ≤ (n : Int) := Int.natCast_nonneg n
      have h2 : (n : Int) ≤ 1000000 := by omega
      exact ⟨Int.le_trans (by decide) h1, Int.lt_of_le_of_lt h2 (by decide)⟩
    rw [if_pos es, Int.toNat_natCast]
    exact Al.ret ⟨by simp; omega, by simp; omega⟩
  have hc := lcE_al (own := [3]) (tg := nameG 3) (ifs := yesT) (d := 7) (R := fun y => ∃ t, y = .str t ∧ Tx sg 1 5 t) (elt := callE 4 F__law_word (consL (varE 0) (consL (varE 1) (consL (opE addD (conE (.int 1)) (cbE intF (consL (opE gtD (callE 2 F__law_draw (consL (varE 0) (consL (conE (.int 4)) nilL))) (conE (.int 0))) nilL))) (consL (conE (.int 5)) nilL))))) hr (by omega) fun xs _ x hx => ⟨[.val .pen, .val (.str sg), .no, .val x], rfl, rfl, by
    have ea : consL (varE 0) (consL (conE (.int 4)) nilL) [.val .pen, .val (.str sg), .no, .val x] = .ret [.pen, .int ((4 : Nat) : Int)] := rfl
    have hd : Al (fun d => ∃ i : Nat, i < 4 ∧ d = .int (i : Int)) 1 (callE 2 F__law_draw (consL (varE 0) (consL (conE (.int 4)) nilL)) [.val .pen, .val (.str sg), .no, .val x]) := by
      refine callE_to ea rfl ?_
      exact draw_al (by omega) (by omega)
    have hg : Al (fun d => ∃ k : Bool, d = .bl k) 1 (opE gtD (callE 2 F__law_draw (consL (varE 0) (consL (conE (.int 4)) nilL))) (conE (.int 0)) [.val .pen, .val (.str sg), .no, .val x]) :=
      Al.mono (opE_al (T := fun d => ∃ k : Bool, d = .bl k) (S := fun y => y = .int 0) (e := 0) hd (Al.eq rfl rfl) fun a b ⟨i, _, ea⟩ eb => by subst ea eb; exact ⟨_, rfl, _, rfl⟩) (fun _ z => z) (Nat.le_refl (1 + 0))
    have hi : Al (fun d => ∃ n : Nat, n ≤ 1 ∧ d = .int (n : Nat)) 1 (cbE intF (consL (opE gtD (callE 2 F__law_draw (consL (varE 0) (consL (conE (.int 4)) nilL))) (conE (.int 0))) nilL) [.val .pen, .val (.str sg), .no, .val x]) :=
      cbE_al (Al.mono (consL_al hg nilL_al) (fun _ z => z) (Nat.le_refl (1 + 0))) fun ds ⟨y, ys, e, ⟨k, ek⟩, eys⟩ => by
        subst e ek eys
        cases k with
        | true => exact ⟨_, rfl, 1, by omega, rfl⟩
        | false => exact ⟨_, rfl, 0, by omega, rfl⟩
    have hn : Al (fun d => ∃ n : Nat, 1 ≤ n ∧ n ≤ 2 ∧ d = .int (n : Nat)) 1 (opE addD (conE (.int 1)) (cbE intF (consL (opE gtD (callE 2 F__law_draw (consL (varE 0) (consL (conE (.int 4)) nilL))) (conE (.int 0))) nilL)) [.val .pen, .val (.str sg), .no, .val x]) :=
      Al.mono (opE_al (R := fun y => y = .int 1) (T := fun d => ∃ n : Nat, 1 ≤ n ∧ n ≤ 2 ∧ d = .int (n : Nat)) (d := 0) (Al.eq rfl rfl) hi fun a b ea ⟨n, hn, eb⟩ => by
        subst ea eb
        exact ⟨_, rfl, 1 + n, by omega, by omega, by simp⟩) (fun _ z => z) (Nat.le_refl (0 + 1))
    have hL := consL_al (A := varE 0) (R := fun y => y = .pen) (d := 0) (env := [.val .pen, .val (.str sg), .no, .val x]) (Al.eq rfl rfl) (consL_al (A := varE 1) (R := fun y => y = .str sg) (d := 0) (Al.eq rfl rfl) (consL_al hn (consL_al (A := conE (.int 5)) (R := fun y => y = .int 5) (d := 0) (Al.eq rfl rfl) nilL_al)))
    refine Al.mono (callE_al (m := 4) (e := 6) hL fun ds ⟨d1, r1, e1, h1, d2, r2, e2, h2, d3, r3, e3, ⟨n, n1, n2, h3⟩, d4, r4, e4, h4, e5⟩ => ?_) (fun _ z => z) (by omega)
    subst e1 e2 e3 e4 e5 h1 h2 h3 h4
    refine ⟨rfl, Al.mono (word_al hs (a := n) (b := 5) (by omega) (by omega)) (fun d ⟨t, et, tx⟩ => ⟨t, et, tx.mono n1 (Nat.le_refl _)⟩) (Nat.le_refl _)⟩⟩
  refine Al.mono (asg_al (e := 1) hc fun d ⟨xs, ys, hx, ed, hl, hy⟩ => ?_) (fun _ z => z) (by omega)
  subst ed
  obtain ⟨ws, ew, hw⟩ := words_of (a := 1) (b := 5) hy
  subst ew
  show Al _ 1 ((retS _) [.val .pen, .val (.str sg), .val (S ws), .no])
  have hwl : ws.length ≤ 4 := by rw [List.length_map] at hl; omega
  refine ret_al ?_
  have ea : consL (varE 0) (consL (conE (.int 2)) nilL) [.val .pen, .val (.str sg), .val (S ws), .no] = .ret [.pen, .int ((2 : Nat) : Int)] := rfl
  have hd : Al (fun d => ∃ i : Nat, i < 2 ∧ d = .int (i : Int)) 1 (callE 2 F__law_draw (consL (varE 0) (consL (conE (.int 2)) nilL)) [.val .pen, .val (.str sg), .val (S ws), .no]) := by
    refine callE_to ea rfl ?_
    exact draw_al (by omega) (by omega)
  have hsl : Al (fun d => ∃ i : Nat, i ≤ 1 ∧ d = S (ws.take i)) 1 (slE (varE 2) noO (someO (callE 2 F__law_draw (consL (varE 0) (consL (conE (.int 2)) nilL)))) [.val .pen, .val (.str sg), .val (S ws), .no]) := by
    unfold slE
    show Al _ 1 (((someO (callE 2 F__law_draw (consL (varE 0) (consL (conE (.int 2)) nilL))) [.val .pen, .val (.str sg), .val (S ws), .no])).bind fun hi => M.ofO (slD (S ws) none hi))
    unfold someO
    rw [M.bind_bind]
    refine Al.mono (Al.bind (e := 0) hd fun a ⟨i, hi, ei⟩ => ?_) (fun _ z => z) (Nat.le_refl (1 + 0))
    subst ei
    show Al _ 0 (M.ofO (slD (S ws) none (some (i : Nat))))
    by_cases c : i ≤ ws.length
    · rw [slD_pre c]
      exact Al.ret ⟨i, by omega, rfl⟩
    · have e0 : ws = [] := List.length_eq_zero_iff.mp (by omega)
      subst e0
      have e1 : i = 1 := by simp at c; omega
      subst e1
      exact Al.eq (a := S []) rfl ⟨0, by omega, rfl⟩
  have hadd : Al (fun d => ∃ vs, d = S vs ∧ Drawn sg vs) 1 (opE addD (varE 2) (slE (varE 2) noO (someO (callE 2 F__law_draw (consL (varE 0) (consL (conE (.int 2)) nilL))))) [.val .pen, .val (.str sg), .val (S ws), .no]) := by
    refine Al.mono (opE_al (R := fun y => y = S ws) (T := fun d => ∃ vs, d = S vs ∧ Drawn sg vs) (d := 0) (Al.eq rfl rfl) hsl fun a b ea ⟨i, hi, eb⟩ => ?_) (fun _ z => z) (Nat.le_refl (0 + 1))
    subst ea eb
    have hl2 : (ws.take i).length ≤ 1 := by rw [List.length_take]; omega
    refine ⟨S (ws ++ ws.take i), ?_, ws ++ ws.take i, rfl, hs, fun w h => ?_, by rw [List.length_append]; omega⟩
    · show (if (ws.map D.str).length + ((ws.take i).map D.str).length ≤ 1000000 then some (D.lst (ws.map D.str ++ (ws.take i).map D.str)) else none) = _
      rw [if_pos (by rw [List.length_map, List.length_map]; omega), ← List.map_append]
    · rcases List.mem_append.mp h with h | h
      · exact (hw w h).mono (Nat.le_refl _) (by omega)
      · exact (hw w (List.mem_of_mem_take h)).mono (Nat.le_refl _) (by omega)
  unfold tupE
  refine Al.mono (Al.bind (e := 0) (consL_al (A := varE 1) (R := fun y => y = .str sg) (d := 0) (Al.eq rfl rfl) (consL_al hadd nilL_al)) fun l ⟨x, xs, e, h1, y, ys, e2, ⟨vs, h2, dr⟩, e3⟩ => ?_) (fun _ z => z) (Nat.le_refl (0 + (1 + 0) + 0))
  subst e h1 e2 h2 e3
  exact Al.ret ⟨sg, vs, rfl, dr⟩
end K00

set_option Elab.async false
set_option linter.all false
set_option maxRecDepth 100000
set_option maxHeartbeats 4000000
/-! k00: what is asked of drawn texts, and the law. -/
namespace K00
open PySem DL
theorem cps_cut {z : Str} {lo hi : Option Int} {c : Nat} (h : c ∈ (L2.cutS z lo hi).cps.toList) : c ∈ z.cps.toList := by
  unfold L2.cutS at h
  simp only [List.toList_toArray] at h
  exact List.mem_of_mem_drop (List.mem_of_mem_take h)
theorem ok_iff {z : Str} : PyData.strOk z = true ↔ ∀ c ∈ z.cps.toList, c < 1114112 := by
  unfold PyData.strOk
  rw [← Array.all_toList, List.all_eq_true]
  simp
theorem cut_ok {z : Str} {lo hi : Option Int} (h : PyData.strOk z = true) : PyData.strOk (L2.cutS z lo hi) = true := ok_iff.mpr fun c hc => ok_iff.mp h c (cps_cut hc)
theorem app_ok {x y : Str} (h1 : PyData.strOk x = true) (h2 : PyData.strOk y = true) : PyData.strOk (x ++ y) = true := ok_iff.mpr fun c hc => by
  have hc : c ∈ (x.cps ++ y.cps).toList := hc
  rw [Array.toList_append, List.mem_append] at hc
  rcases hc with hc | hc
  · exact ok_iff.mp h1 c hc
  · exact ok_iff.mp h2 c hc
theorem last_ok {es : List Str} {t : Str} (h : PyData.strOk t = true) : PyData.strOk (lastP es t) = true := by
  unfold lastP
  split
  · decide +kernel
  · exact cut_ok h
theorem ends_nil (ws : List Str) : ("" : Str) ∈ endsP ws := (insS_mem (x := "")).mpr (found_nil ws)
theorem found_ok {ws : List Str} (h : oks ws) : oks (foundP ws) := by
  have h1 : ∀ (w : Str), PyData.strOk w = true → ∀ (l : List Nat) (f : List Str), oks f → oks (l.foldl (addEnd ws w) f) := by
    intro w hw l
    induction l with
    | nil => intro f h; exact h
    | cons k r ih =>
      intro f hf
      refine ih _ ?_
      unfold addEnd
      split
      · intro s hs
        rcases List.mem_append.mp hs with hs | hs
        · exact hf s hs
        · rw [List.mem_singleton] at hs
          subst hs
          exact cut_ok hw
      · exact hf
  have h2 : ∀ (l : List Str), oks l → ∀ (f : List Str), oks f → oks (l.foldl (fun f w => (List.range (w.length - 1)).foldl (addEnd ws w) f) f) := by
    intro l
    induction l with
    | nil => intro _ f h; exact h
    | cons w r ih => intro hl f hf; exact ih (fun s hs => hl s (List.mem_cons_of_mem _ hs)) _ (h1 w (hl w List.mem_cons_self) _ f hf)
  exact h2 ws h [""] fun s hs => by
    rw [List.mem_singleton] at hs
    subst hs
    decide +kernel
theorem ends_ok {ws : List Str} (h : oks ws) : oks (endsP ws) := fun s hs => found_ok h s ((insS_mem (x := "")).mp hs)
theorem found_short {ws : List Str} (hs : small ws) : ∀ s ∈ foundP ws, s.length ≤ 6 := by
  have h1 : ∀ (w : Str), w.length ≤ 6 → ∀ (l : List Nat) (f : List Str), (∀ s ∈ f, s.length ≤ 6) → ∀ s ∈ l.foldl (addEnd ws w) f, s.length ≤ 6 := by
    intro w hw l
    induction l with
    | nil => intro f h; exact h
    | cons k r ih =>
      intro f hf
      refine ih _ ?_
      unfold addEnd
      split
      · intro s hs
        rcases List.mem_append.mp hs with hs | hs
        · exact hf s hs
        · rw [List.mem_singleton] at hs
          subst hs
          exact Nat.le_trans (L2.cutS_length _ _ _) hw
      · exact hf
  have h2 : ∀ (l : List Str), (∀ s ∈ l, s.length ≤ 6) → ∀ (f : List Str), (∀ s ∈ f, s.length ≤ 6) → ∀ s ∈ l.foldl (fun f w => (List.range (w.length - 1)).foldl (addEnd ws w) f) f, s.length ≤ 6 := by
    intro l
    induction l with
    | nil => intro _ f h; exact h
    | cons w r ih => intro hl f hf; exact ih (fun s hs => hl s (List.mem_cons_of_mem _ hs)) _ (h1 w (hl w List.mem_cons_self) _ f hf)
  exact h2 ws hs.2 [""] fun s h => by
    rw [List.mem_singleton] at h
    subst h
    decide
theorem ends_short {ws : List Str} (hs : small ws) : ∀ s ∈ endsP ws, s.length ≤ 6 := fun s h => found_short hs s ((insS_mem (x := "")).mp h)
theorem var_v {i : Nat} {env : PEnv} {d : D} (h : env[i]? = some (.val d)) : varE i env = .ret d := by
  unfold varE
  rw [h]
theorem eqD_beh {ws es : List Str} {x : Str} (h : PyData.strOk x = true) : eqD (behindP ws es x) (behindP ws es x) = some (.bl true) := by
  unfold behindP
  split
  · rfl
  · rw [eqD_str _ _ (last_ok h) (last_ok h), decide_eq_true rfl]
theorem asked_al {sg : Str} {words : List Str} (dr : Drawn sg words) (h16 : (endsP (leastP words)).length ≤ 16) : Al (fun d => d = .bl true) 16 (F__law_asked_right [.pen, Bp sg (leastP words) (endsP (leastP words)), .str sg, S words]) := by
  have hk := dr.oks
  have hko := least_oks hk
  have hsm := dr.small
  have hz : (leastP words).length ≤ 1000000 := hsm.z
  have hlen := dr.len
  refine run_al (m := 8) (A := B__law_asked_right) ?_
  show Al _ 16 (B__law_asked_right [.val .pen, .val (Bp sg (leastP words) (endsP (leastP words))), .val (.str sg), .val (S words), .no, .no, .no, .no])
  generalize hbp : Bp sg (leastP words) (endsP (leastP words)) = bp
  unfold B__law_asked_right
  have hw1 : Al (fun d => ∃ t, d = .str t ∧ Tx sg 0 9 t) 10 (callE 4 F__law_word (consL (varE 0) (consL (varE 2) (consL (conE (.int 0)) (consL (conE (.int 9)) nilL)))) [.val .pen, .val bp, .val (.str sg), .val (S words), .no, .no, .no, .no]) := by
    have ea : consL (varE 0) (consL (varE 2) (consL (conE (.int 0)) (consL (conE (.int 9)) nilL))) [.val .pen, .val bp, .val (.str sg), .val (S words), .no, .no, .no, .no] = .ret [.pen, .str sg, .int ((0 : Nat) : Int), .int ((9 : Nat) : Int)] := rfl
    refine callE_to ea rfl ?_
    exact word_al (a := 0) (b := 9) dr.hs (by omega) (by omega)
  refine Al.mono (asg_al (e := 6) hw1 fun d ⟨t, ed, tx⟩ => ?_) (fun _ z => z) (Nat.le_refl 16)
  subst ed
  have htl : t.length ≤ 9 := tx.hi
  show Al _ 6 ((seqS (asgS (nameG 5) _) _) [.val .pen, .val bp, .val (.str sg), .val (S words), .val (.str t), .no, .no, .no])
  refine nx_al (asgS_name (ev_call (ds := [S words]) rfl rfl (F_least_w (by omega) hk))) ?_
  show Al _ 6 ((seqS _ _) [.val .pen, .val bp, .val (.str sg), .val (S words), .val (.str t), .val (S (leastP words)), .no, .no])
  have hin : opM (oinF "Bars" false 2 F_Bars_contains) (varE 4) (varE 1) [.val .pen, .val bp, .val (.str sg), .val (S words), .val (.str t), .val (S (leastP words)), .no, .no] = .ret (.bl (holdsP (leastP words) t)) :=
    ev_opM (x := .str t) (y := bp) rfl rfl (by rw [← hbp]; exact oin_v (F_contains_b (by omega) hz tx.is))
  have hho : callE 2 F__law_holds (consL (varE 5) (consL (varE 4) nilL)) [.val .pen, .val bp, .val (.str sg), .val (S words), .val (.str t), .val (S (leastP words)), .no, .no] = .ret (.bl (holdsP (leastP words) t)) :=
    ev_call (ds := [S (leastP words), .str t]) rfl rfl (F_holds hz hko)
  refine nx_al (skip_if (boolT_ret (ev_op hin hho (by rw [neD_bl, beq_self_eq_true]; rfl)))) ?_
  have hif : ifS (andT (notT (boolT (callE 2 F__law_holds (consL (varE 5) (consL (varE 4) nilL))))) (orT (boolT (opE neD (methE "Bars" "end_of" 2 F_Bars_end_of (varE 1) (consL (varE 4) nilL)) (callE 2 F__law_end (consL (varE 5) (consL (varE 4) nilL))))) (boolT (opE neD (methKE "Bars" "end_of" 2 1 [0, 1] F_Bars_end_of (varE 1) (consL (varE 4) nilL)) (callE 2 F__law_end (consL (varE 5) (consL (varE 4) nilL))))))) (retS (conE (.bl false))) skipS [.val .pen, .val bp, .val (.str sg), .val (S words), .val (.str t), .val (S (leastP words)), .no, .no] = .ret (.nx, [.val .pen, .val bp, .val (.str sg), .val (S words), .val (.str t), .val (S (leastP words)), .no, .no]) := by
    refine skip_if ?_
    cases hh : holdsP (leastP words) t with
    | true =>
      rw [hh] at hho
      exact and_false (notT_ret (boolT_ret hho))
    | false =>
      rw [hh] at hho
      have e1 := F_end_of_b (sg := sg) (es := endsP (leastP words)) (by omega) hz tx.is hh
      have e2 : callE 2 F__law_end (consL (varE 5) (consL (varE 4) nilL)) [.val .pen, .val bp, .val (.str sg), .val (S words), .val (.str t), .val (S (leastP words)), .no, .no] = .ret (.str (lastP (endsP (leastP words)) t)) :=
        ev_call (ds := [S (leastP words), .str t]) rfl rfl (by rw [F_end_w hsm hko (by omega), end_last (ends_nil _)])
      have e3 : methE "Bars" "end_of" 2 F_Bars_end_of (varE 1) (consL (varE 4) nilL) [.val .pen, .val bp, .val (.str sg), .val (S words), .val (.str t), .val (S (leastP words)), .no, .no] = .ret (.str (lastP (endsP (leastP words)) t)) :=
        (meth_ret (ds := [.str t]) (by rw [var_v (d := bp) rfl, ← hbp]) rfl rfl (by rfl)).trans e1
      have e4 : methKE "Bars" "end_of" 2 1 [0, 1] F_Bars_end_of (varE 1) (consL (varE 4) nilL) [.val .pen, .val bp, .val (.str sg), .val (S words), .val (.str t), .val (S (leastP words)), .no, .no] = .ret (.str (lastP (endsP (leastP words)) t)) :=
        methK_v (ds := [.str t]) (by rw [var_v (d := bp) rfl, ← hbp]) rfl (by rfl) rfl rfl e1
      have hl := last_ok (es := endsP (leastP words)) tx.ok
      have e5 : ∀ x : Str, PyData.strOk x = true → neD (.str x) (.str x) = some (.bl false) := fun x h => by
        rw [neD_str _ _ h h, decide_eq_true rfl]
        rfl
      exact (andT_ret (notT_ret (boolT_ret hho)) (or_ff (boolT_ret (ev_op e3 e2 (e5 _ hl))) (boolT_ret (ev_op e4 e2 (e5 _ hl))))).trans rfl
  refine nx_al hif ?_
  have hpk : Al (fun d => ∃ e ∈ endsP (leastP words), d = .str e) 1 (callE 2 F__law_pick (consL (varE 0) (consL (un1 (fldF fc_ends "ends") (varE 1)) nilL)) [.val .pen, .val bp, .val (.str sg), .val (S words), .val (.str t), .val (S (leastP words)), .no, .no]) := by
    have f := fld_at2 (sg := sg) (ws := leastP words) (es := endsP (leastP words)) (i := 1) (env := [.val .pen, .val bp, .val (.str sg), .val (S words), .val (.str t), .val (S (leastP words)), .no, .no]) (by rw [← hbp]; rfl)
    have ea : consL (varE 0) (consL (un1 (fldF fc_ends "ends") (varE 1)) nilL) [.val .pen, .val bp, .val (.str sg), .val (S words), .val (.str t), .val (S (leastP words)), .no, .no] = .ret [.pen, .tup ((endsP (leastP words)).map D.str)] := consL_ret rfl (consL_ret f.2.2 rfl)
    refine callE_to ea rfl ?_
    refine Al.mono (pick_tup (by rw [List.length_map]; exact List.length_pos_of_mem (ends_nil _)) (by rw [List.length_map]; omega)) (fun d h => ?_) (Nat.le_refl _)
    obtain ⟨e, h1, h2⟩ := List.mem_map.mp h
    exact ⟨e, h1, h2.symm⟩
  have hw2 : Al (fun d => ∃ t, d = .str t ∧ Tx sg 0 4 t) 5 (callE 4 F__law_word (consL (varE 0) (consL (varE 2) (consL (conE (.int 0)) (consL (conE (.int 4)) nilL)))) [.val .pen, .val bp, .val (.str sg), .val (S words), .val (.str t), .val (S (leastP words)), .no, .no]) := by
    have ea : consL (varE 0) (consL (varE 2) (consL (conE (.int 0)) (consL (conE (.int 4)) nilL))) [.val .pen, .val bp, .val (.str sg), .val (S words), .val (.str t), .val (S (leastP words)), .no, .no] = .ret [.pen, .str sg, .int ((0 : Nat) : Int), .int ((4 : Nat) : Int)] := rfl
    refine callE_to ea rfl ?_
    exact word_al (a := 0) (b := 4) dr.hs (by omega) (by omega)
  unfold seqS parS
  rw [M.bind_bind]
  refine Al.mono (Al.bind (e := 0) (consL_al hpk (consL_al hw2 nilL_al)) fun l ⟨x, xs, e1, ⟨e, he, ex⟩, y, ys, e2, ⟨m, em, tm⟩, e3⟩ => ?_) (fun _ z => z) (Nat.le_refl (1 + (5 + 0) + 0))
  subst e1 ex e2 em e3
  show Al _ 0 ((retS _) [.val .pen, .val bp, .val (.str sg), .val (S words), .val (.str t), .val (S (leastP words)), .val (.str e), .val (.str m)])
  have hel := ends_short hsm e he
  have hml := tm.hi
  have eok := ends_ok hko e he
  have xok := app_ok eok tm.ok
  have b1 := F_behind_b (sg := sg) (t := m) (by omega) hz tm.is he
  have b2 := F_behind_w (e := e) (t := m) hsm hko (by omega)
  have g1 : methE "Bars" "behind" 3 F_Bars_behind (varE 1) (consL (varE 6) (consL (varE 7) nilL)) [.val .pen, .val bp, .val (.str sg), .val (S words), .val (.str t), .val (S (leastP words)), .val (.str e), .val (.str m)] = .ret (behindP (leastP words) (endsP (leastP words)) (e ++ m)) :=
    (meth_ret (ds := [.str e, .str m]) (by rw [var_v (d := bp) rfl, ← hbp]) rfl rfl (by rfl)).trans b1
  have g2 : callE 3 F__law_behind (consL (varE 5) (consL (varE 6) (consL (varE 7) nilL))) [.val .pen, .val bp, .val (.str sg), .val (S words), .val (.str t), .val (S (leastP words)), .val (.str e), .val (.str m)] = .ret (behindP (leastP words) (endsP (leastP words)) (e ++ m)) :=
    ev_call (ds := [S (leastP words), .str e, .str m]) rfl rfl (by rw [b2, end_last (ends_nil _)]; unfold behindP; split <;> rfl)
  have g3 : methKE "Bars" "behind" 3 2 [0, 2, 1] F_Bars_behind (varE 1) (consL (varE 7) (consL (varE 6) nilL)) [.val .pen, .val bp, .val (.str sg), .val (S words), .val (.str t), .val (S (leastP words)), .val (.str e), .val (.str m)] = .ret (behindP (leastP words) (endsP (leastP words)) (e ++ m)) :=
    methK_v (ds := [.str m, .str e]) (by rw [var_v (d := bp) rfl, ← hbp]) rfl (by rfl) rfl rfl b1
  refine ret_al (Al.eq (a := .bl true) ?_ rfl)
  exact (andE_ret (ev_op g1 g2 (eqD_beh xok)) (ev_op g3 g1 (eqD_beh xok))).trans rfl
end K00

set_option Elab.async false
set_option linter.all false
set_option maxRecDepth 100000
set_option maxHeartbeats 4000000
/-! k00: the law. -/
namespace K00
open PySem DL
theorem asgT_al {R : D → Prop} {T : Fl × PEnv → Prop} {d e : Nat} {tg : TgS} {F : SE} {B : SS} {env : PEnv} (h1 : Al R d (F env)) (h2 : ∀ x, R x → ∃ env', tg x env = some env' ∧ Al T e (B env')) : Al T (d + e) (seqS (asgS tg F) B env) := by
  unfold seqS asgS
  rw [M.bind_bind]
  refine Al.bind h1 fun x rx => ?_
  obtain ⟨env', e1, h⟩ := h2 x rx
  rw [e1]
  exact h
theorem par_v {i j : Nat} {L : SL} {env : PEnv} {d e : D} (h : L env = .ret [d, e]) : parS i j L env = .ret (.nx, (env.set i (.val d)).set j (.val e)) := by
  unfold parS
  rw [h]
  rfl
theorem callKE_v {ps m : Nat} {is : List Nat} {Fn : DL.Fn} {L : SL} {env : PEnv} {ds : List D} {r : M D} (h : L env = .ret ds) (h1 : ds.length = m) (h2 : (permL is ds).length = ps) (h3 : Fn (permL is ds) = r) : callKE ps m is Fn L env = r := by
  unfold callKE
  rw [h, M.ret_bind]
  unfold lenL
  rw [if_pos h1, if_pos h2, h3]
theorem olen_v {c : Str} {m : Nat} {Fn : DL.Fn} {A : SE} {env : PEnv} {fs : List (Str × D)} {n : Nat} (h1 : A env = .ret (.ins c fs)) (hm : [D.ins c fs].length = m) (h : Fn [.ins c fs] = .ret (.int n)) (hn : (n : Int) < 2 ^ 63) : olenE c m Fn A env = .ret (.int n) := by
  unfold olenE
  rw [h1, M.ret_bind]
  dsimp only
  rw [if_pos rfl]
  unfold lenL
  rw [if_pos hm, h, M.ret_bind]
  dsimp only
  rw [if_pos ⟨Int.natCast_nonneg n, hn⟩]
theorem slD_take (ss : List Str) (i : Nat) : slD (S ss) none (some (i : Nat)) = some (S (ss.take i)) := by
  by_cases c : i ≤ ss.length
  · exact slD_pre c
  · show some (D.lst (cutD (ss.map D.str) none (some (i : Nat)))) = _
    unfold cutD
    rw [HT.sIx_none, HT.sIx_nat, List.drop_zero, List.length_map, Nat.min_eq_right (by omega), Nat.sub_zero, List.take_of_length_le (by rw [List.length_map]; exact Nat.le_refl _), List.take_of_length_le (by omega)]
theorem toPy_strsT (ws : List Str) : toPy (.tup (ws.map D.str)) = some (.tuple (ws.map PyData.str)) := by
  show (toPyL (ws.map D.str)).map _ = _
  rw [toPyL_strs]
  rfl
theorem repr_len (ws : List Str) (h : ∀ w ∈ ws, PyData.strOk w = true ∧ w.length ≤ 6) (hl : ws.length ≤ 100) : (PyData.tuple (ws.map PyData.str)).shown.length ≤ 16777216 := by
  have e : ∀ l : List Str, PyData.shownAll (l.map PyData.str) = l.map reprText := by
    intro l
    induction l with
    | nil => rfl
    | cons x r ih => simp only [List.map_cons, PyData.shownAll, PyData.shown, ih]
  have e2 : (PyData.tuple (ws.map PyData.str)).shown = tupleText (ws.map reprText) := by
    show tupleText (PyData.shownAll (ws.map PyData.str)) = _
    rw [e]
  rw [e2]
  have hp : ∀ l : List Str, (∀ w ∈ l, PyData.strOk w = true ∧ w.length ≤ 6) → piled (l.map reprText) ≤ 64 * l.length := by
    intro l
    induction l with
    | nil => intro _; exact Nat.le_refl _
    | cons x r ih =>
      intro hx
      rw [List.map_cons, piled_cons]
      have h1 := ih fun w hw => hx w (List.mem_cons_of_mem _ hw)
      obtain ⟨o, l6⟩ := hx x List.mem_cons_self
      have h2 := StrLaws.reprText_len x fun c hc => Nat.lt_trans (ok_iff.mp o c hc) (by decide)
      rw [List.length_cons]
      omega
  have h1 := hp ws h
  unfold tupleText
  cases ws with
  | nil => decide
  | cons x r =>
    have hj := join_length_add ((x :: r).map reprText) (by simp)
    rw [app_len, app_len]
    have : (("(" : Str)).length = 1 := rfl
    have e3 : ∀ b : Bool, ((if b = true then (",)" : String) else ")" : String) : Str).length ≤ 2 := by intro b; cases b <;> decide
    have := e3 (((x :: r).map reprText).length == 1)
    omega
theorem repr_v (ws : List Str) (h : ∀ w ∈ ws, PyData.strOk w = true ∧ w.length ≤ 6) (hl : ws.length ≤ 100) : ∃ r, reprF [.tup (ws.map D.str)] = some (.str r) := by
  have e1 : ∀ l : List Str, PyData.showableAll (l.map PyData.str) = true := by
    intro l
    induction l with
    | nil => rfl
    | cons x r ih => simp only [List.map_cons, PyData.showableAll, PyData.showable, ih, Bool.and_self]
  have e2 : ∀ l : List Str, PyData.hasDictAll (l.map PyData.str) = false := by
    intro l
    induction l with
    | nil => rfl
    | cons x r ih => simp only [List.map_cons, PyData.hasDictAll, PyData.hasDict, ih, Bool.or_self]
  refine ⟨(PyData.tuple (ws.map PyData.str)).shown, ?_⟩
  show (toPy (.tup (ws.map D.str))).bind reprP = _
  rw [toPy_strsT, Option.bind_some]
  unfold reprP
  rw [if_pos]
  have e3 : (PyData.tuple (ws.map PyData.str)).showable = true := by simp only [PyData.showable, e1]
  have e4 : (PyData.tuple (ws.map PyData.str)).hasDict = false := by simp only [PyData.hasDict, e2]
  have e5 : (PyData.tuple (ws.map PyData.str)).depth ≤ 64 := by simp only [PyData.depth, depth_strs]; decide
  rw [e3, e4, decide_eq_true e5, decide_eq_true (repr_len ws h hl)]
  rfl
theorem least_idem_nil : leastP [] = [] := by decide +kernel
theorem mixed_mem {ws : List Str} {s : Str} : s ∈ ws.reverse ++ ws.take 1 ↔ s ∈ ws := by
  rw [List.mem_append, List.mem_reverse]
  exact ⟨fun h => h.elim id List.mem_of_mem_take, .inl⟩
theorem sg_need {sg : Str} (h : sg ∈ sgs) : F_need_signs [.str sg] = .ret .non := signs_ok sg h
/-- a lap, behind the draws of its words -/
theorem lap_al {sg : Str} {words : List Str} {s2 s5 s6 s7 s8 s9 s10 : Slot} (dr : Drawn sg words) : Al (fun r => r.1 = .nx ∧ ∃ s2 s3 s4 s5 s6 s7 s8 s9 s10, r.2 = [.no, .val .pen, s2, s3, s4, s5, s6, s7, s8, s9, s10]) 80
    ((seqS (asgS (nameG 5) (callE 1 F__law_least_words (consL (varE 4) nilL)))
  (ifS (boolT (opE ltD (cbE lenF (consL (callE 1 F__law_ends (consL (varE 5) nilL)) nilL)) (conE (.int 17)))) (seqS (parS 6 7 (consL (callE 2 F_Bars_of (consL (varE 3) (consL (varE 4) nilL))) (consL (opE addD (un1 revF (varE 4)) (slE (varE 4) noO (someO (conE (.int 1))))) nilL)))
  (seqS (ifS (orT (boolT (opE neD (un1 (fldF fc_signs "signs") (varE 6)) (varE 3))) (orT (boolT (opE neD (cbE reprF (consL (un1 (fldF fc_words "words") (varE 6)) nilL)) (cbE reprF (consL (cbE tupF (consL (varE 5) nilL)) nilL)))) (boolT (opE neD (cbE reprF (consL (un1 (fldF fc_ends "ends") (varE 6)) nilL)) (cbE reprF (consL (cbE tupF (consL (callE 1 F__law_ends (consL (varE 5) nilL)) nilL)) nilL)))))) (retS (conE (.bl false))) skipS)
  (seqS (ifS (orT (boolT (opE neD (olenE "Bars" 1 F_Bars_len (varE 6)) (cbE lenF (consL (varE 5) nilL)))) (orT (boolT (opE neD (lcE [10] (ownI "Bars" "words" (varE 6)) (nameG 10) yesT (varE 10)) (varE 5))) (boolT (opM (oeqF "Bars" true te_Bars 2 F_Bars_eq) (varE 6) (callKE 2 2 [1, 0] F_Bars_of (consL (cbE tupF (consL (varE 7) nilL)) (consL (varE 3) nilL))))))) (retS (conE (.bl false))) skipS)
  (seqS (ifS (orT (boolT (opE neD (opM (oeqF "Bars" false te_Bars 2 F_Bars_eq) (varE 6) (callSE 1 F_Bars_init (consL (varE 3) nilL))) (opE eqD (varE 5) (lstE nilL)))) (orT (boolT (opM (oeqF "Bars" false te_Bars 2 F_Bars_eq) (varE 6) (cbE tupF (consL (varE 5) nilL)))) (orT (boolT (opM (oinF "Bars" false 2 F_Bars_contains) (conE .non) (varE 6))) (orT (boolT (opM (oinF "Bars" false 2 F_Bars_contains) (conE (.int 0)) (varE 6))) (boolT (opM (oinF "Bars" false 2 F_Bars_contains) (lstE (consL (conE (.str "")) nilL)) (varE 6))))))) (retS (conE (.bl false))) skipS)
  (forS (rng1I (consL (conE (.int 5)) nilL)) (nameG 8) (ifS (notT (boolT (callE 4 F__law_asked_right (consL (varE 1) (consL (varE 6) (consL (varE 3) (consL (varE 4) nilL))))))) (retS (conE (.bl false))) skipS)))))) skipS)) [.no, .val .pen, s2, .val (.str sg), .val (S words), s5, s6, s7, s8, s9, s10]) := by
  have hk := dr.oks
  have hko := least_oks hk
  have hsm := dr.small
  have hlen := dr.len
  have hll := leastP_len words
  have hlt : ∀ w ∈ leastP words, PyData.strOk w = true ∧ w.length ≤ 6 := fun w h => ⟨hko w h, hsm.2 w h⟩
  have hlt2 : ∀ w ∈ endsP (leastP words), PyData.strOk w = true ∧ w.length ≤ 6 := fun w h => ⟨ends_ok hko w h, ends_short hsm w h⟩
  have sf := sg_facts sg dr.hs
  refine nx_al (asgS_name (ev_call (ds := [S words]) rfl rfl (F_least_w (by omega) hk))) ?_
  show Al _ 80 ((ifS _ _ _) [.no, .val .pen, s2, .val (.str sg), .val (S words), .val (S (leastP words)), s6, s7, s8, s9, s10])
  have he : ∀ s6 s7, callE 1 F__law_ends (consL (varE 5) nilL) [.no, .val .pen, s2, .val (.str sg), .val (S words), .val (S (leastP words)), s6, s7, s8, s9, s10] = .ret (S (endsP (leastP words))) := fun s6 s7 => ev_call (ds := [S (leastP words)]) rfl rfl (F_ends_w hsm hko)
  have hc : boolT (opE ltD (cbE lenF (consL (callE 1 F__law_ends (consL (varE 5) nilL)) nilL)) (conE (.int 17))) [.no, .val .pen, s2, .val (.str sg), .val (S words), .val (S (leastP words)), s6, s7, s8, s9, s10] = .ret (decide ((endsP (leastP words)).length < 17)) := by
    refine boolT_ret (ev_op (x := .int ((endsP (leastP words)).length : Nat)) (ev_cb (consL_ret (he s6 s7) rfl) ?_) rfl ?_)
    · show some (D.int ((List.map D.str (endsP (leastP words))).length : Nat)) = _
      rw [List.length_map]
    · show some (D.bl (decide (((endsP (leastP words)).length : Int) < 17))) = _
      congr 2
      exact decide_eq_decide.mpr (by omega)
  rw [ifS_ret hc]
  by_cases c : (endsP (leastP words)).length < 17
  case neg =>
    rw [if_neg (by simpa using c)]
    exact Al.mono (Al.ret (R := fun r => r.1 = .nx ∧ ∃ s2 s3 s4 s5 s6 s7 s8 s9 s10, r.2 = [.no, .val .pen, s2, s3, s4, s5, s6, s7, s8, s9, s10]) ⟨rfl, _, _, _, _, _, _, _, _, _, rfl⟩) (fun _ z => z) (Nat.zero_le _)
  rw [if_pos (by simpa using c)]
  have hw : ∀ w ∈ words, isText w sg = true ∧ 1 ≤ w.length ∧ w.length ≤ 6 := fun w h => ⟨(dr.tx w h).is, (dr.tx w h).lo, (dr.tx w h).hi⟩
  have hof := F_of (sg_need dr.hs) hw (by omega) hk (by omega) (by omega) (S words) (.inl rfl)
  have hmix : opE addD (un1 revF (varE 4)) (slE (varE 4) noO (someO (conE (.int 1)))) [.no, .val .pen, s2, .val (.str sg), .val (S words), .val (S (leastP words)), s6, s7, s8, s9, s10] = .ret (S (words.reverse ++ words.take 1)) := by
    refine ev_op (x := S words.reverse) (y := S (words.take 1)) ?_ ?_ ?_
    · show M.ret (D.lst (words.map D.str).reverse) = _
      rw [← List.map_reverse]
    · show M.ofO (slD (S words) none (some ((1 : Nat) : Int))) = _
      rw [slD_take]
      rfl
    · show (if (words.reverse.map D.str).length + ((words.take 1).map D.str).length ≤ 1000000 then some (D.lst (words.reverse.map D.str ++ (words.take 1).map D.str)) else none) = _
      rw [if_pos (by rw [List.length_map, List.length_map, List.length_reverse, List.length_take]; omega), ← List.map_append]
  have hpar : parS 6 7 (consL (callE 2 F_Bars_of (consL (varE 3) (consL (varE 4) nilL))) (consL (opE addD (un1 revF (varE 4)) (slE (varE 4) noO (someO (conE (.int 1))))) nilL)) [.no, .val .pen, s2, .val (.str sg), .val (S words), .val (S (leastP words)), s6, s7, s8, s9, s10] = .ret (.nx, [.no, .val .pen, s2, .val (.str sg), .val (S words), .val (S (leastP words)), .val (Bp sg (leastP words) (endsP (leastP words))), .val (S (words.reverse ++ words.take 1)), s8, s9, s10]) := by
    exact par_v (consL_ret (ev_call (ds := [.str sg, S words]) rfl rfl hof) (consL_ret hmix rfl))
  refine nx_al hpar ?_
  generalize hbp : Bp sg (leastP words) (endsP (leastP words)) = bp
  have f := fld_at2 (sg := sg) (ws := leastP words) (es := endsP (leastP words)) (i := 6) (env := [.no, .val .pen, s2, .val (.str sg), .val (S words), .val (S (leastP words)), .val bp, .val (S (words.reverse ++ words.take 1)), s8, s9, s10]) (by rw [← hbp]; rfl)
  have hv : varE 6 [.no, .val .pen, s2, .val (.str sg), .val (S words), .val (S (leastP words)), .val bp, .val (S (words.reverse ++ words.take 1)), s8, s9, s10] = .ret (Bp sg (leastP words) (endsP (leastP words))) := by rw [hbp]; rfl
  have hss : ∀ x : Str, neD (.str x) (.str x) = some (.bl false) := fun x => by rw [neD_s, decide_eq_true rfl]; rfl
  obtain ⟨r1, er1⟩ := repr_v (leastP words) hlt (by omega)
  obtain ⟨r2, er2⟩ := repr_v (endsP (leastP words)) hlt2 (by omega)
  -- signs, words, ends
  refine nx_al (skip_if (or_ff (boolT_ret (ev_op f.1 rfl (hss sg))) (or_ff (boolT_ret (ev_op (ev_cb (consL_ret f.2.1 rfl) er1) (ev_cb (consL_ret (ev_cb (z := .tup ((leastP words).map D.str)) (consL_ret rfl rfl) rfl) rfl) er1) (hss r1))) (boolT_ret (ev_op (ev_cb (consL_ret f.2.2 rfl) er2) (ev_cb (consL_ret (ev_cb (z := .tup ((endsP (leastP words)).map D.str)) (consL_ret (he _ _) rfl) rfl) rfl) er2) (hss r2)))))) ?_
  -- len, iteration, the same bars by other words
  have hlenb : olenE "Bars" 1 F_Bars_len (varE 6) [.no, .val .pen, s2, .val (.str sg), .val (S words), .val (S (leastP words)), .val bp, .val (S (words.reverse ++ words.take 1)), s8, s9, s10] = .ret (.int ((leastP words).length : Nat)) := by
    exact olen_v hv (by rfl) F_len_b (by omega)
  have hown : ownI "Bars" "words" (varE 6) [.no, .val .pen, s2, .val (.str sg), .val (S words), .val (S (leastP words)), .val bp, .val (S (words.reverse ++ words.take 1)), s8, s9, s10] = .ret ((leastP words).map D.str) := by
    unfold ownI
    rw [hv]
    rfl
  have hlc : lcE [10] (ownI "Bars" "words" (varE 6)) (nameG 10) yesT (varE 10) [.no, .val .pen, s2, .val (.str sg), .val (S words), .val (S (leastP words)), .val bp, .val (S (words.reverse ++ words.take 1)), s8, s9, s10] = .ret (S (leastP words)) := by
    have := lcE_strs (own := [10]) (tg := nameG 10) (ifs := yesT) (elt := varE 10) (p := fun _ => true) (f := D.str) hown (by omega) fun s h => ⟨[.no, .val .pen, s2, .val (.str sg), .val (S words), .val (S (leastP words)), .val bp, .val (S (words.reverse ++ words.take 1)), s8, s9, .val (.str s)], rfl, rfl, fun _ => rfl⟩
    rw [List.filter_eq_self.mpr (fun _ _ => rfl)] at this
    exact this
  have hmw : ∀ w ∈ words.reverse ++ words.take 1, isText w sg = true ∧ 1 ≤ w.length ∧ w.length ≤ 6 := fun w h => hw w (mixed_mem.mp h)
  have hml : (words.reverse ++ words.take 1).length ≤ 6 := by rw [List.length_append, List.length_reverse, List.length_take]; omega
  have hsame : leastP (words.reverse ++ words.take 1) = leastP words := least_same fun s => mixed_mem
  have hof2 := F_of (sg_need dr.hs) hmw (by omega) (fun w h => hk w (mixed_mem.mp h)) (by rw [hsame]; omega) (by rw [hsame]; omega) (.tup ((words.reverse ++ words.take 1).map D.str)) (.inr rfl)
  rw [hsame] at hof2
  have hkw : callKE 2 2 [1, 0] F_Bars_of (consL (cbE tupF (consL (varE 7) nilL)) (consL (varE 3) nilL)) [.no, .val .pen, s2, .val (.str sg), .val (S words), .val (S (leastP words)), .val bp, .val (S (words.reverse ++ words.take 1)), s8, s9, s10] = .ret (Bp sg (leastP words) (endsP (leastP words))) := by
    exact callKE_v (ds := [.tup ((words.reverse ++ words.take 1).map D.str), .str sg]) (consL_ret (ev_cb (consL_ret rfl rfl) rfl) rfl) rfl rfl hof2
  have heq := F_eq_b (es := endsP (leastP words)) (es' := endsP (leastP words)) sf.2.1 sf.2.1 hko hko
  rw [decide_eq_true rfl, decide_eq_true rfl] at heq
  refine nx_al (skip_if (or_ff (boolT_ret (ev_op (y := .int ((leastP words).length : Nat)) hlenb (ev_cb (consL_ret rfl rfl) (by show some (D.int ((List.map D.str (leastP words)).length : Nat)) = _; rw [List.length_map])) ?_)) (or_ff (boolT_ret (ev_op hlc (y := S (leastP words)) rfl ?_)) (boolT_ret (ev_opM hv hkw (oeq_v (by rfl) heq)))))) ?_
  · show neD (.int ((leastP words).length : Nat)) (.int ((leastP words).length : Nat)) = some (.bl false)
    unfold neD neSD nePD eqP
    simp [toPy, SeqAt.shaped, PyData.canLay0, PyData.depth, PyData.eqv]
  · show neD (S (leastP words)) (S (leastP words)) = some (.bl false)
    rw [neD_strsL _ _ hko hko, decide_eq_true rfl]
    rfl
  -- Bars(signs), tuples, None, 0, [""]
  have hin := F_init (ws := []) (sg_need dr.hs) (by simp) (by decide) (fun w h => by cases h) (by rw [least_idem_nil]; decide) (by rw [least_idem_nil]; decide +kernel)
  rw [least_idem_nil] at hin
  have hcs : callSE 1 F_Bars_init (consL (varE 3) nilL) [.no, .val .pen, s2, .val (.str sg), .val (S words), .val (S (leastP words)), .val bp, .val (S (words.reverse ++ words.take 1)), s8, s9, s10] = .ret (Bp sg [] (endsP [])) := hin
  have heq2 := F_eq_b (es := endsP (leastP words)) (es' := endsP []) sf.2.1 sf.2.1 hko oks_nil
  rw [decide_eq_true rfl, Bool.true_and] at heq2
  refine nx_al (skip_if (or_ff (boolT_ret (ev_op (ev_opM hv hcs (oeq_v (by rfl) heq2)) (y := .bl (decide (leastP words = []))) ?_ ?_)) (or_ff (boolT_ret (ev_opM hv (y := .tup ((leastP words).map D.str)) (ev_cb (consL_ret rfl rfl) rfl) (oeq_v (by rfl) F_eq_t))) (or_ff (boolT_ret (ev_opM rfl hv (oin_v F_contains_non))) (or_ff (boolT_ret (ev_opM rfl hv (oin_v F_contains_int))) (boolT_ret (ev_opM (x := .lst [.str ""]) rfl hv (oin_v F_contains_lst)))))))) ?_
  · refine ev_op (x := S (leastP words)) (y := S []) rfl rfl ?_
    rw [eqD_strsL _ _ hko oks_nil]
  · rw [neD_bl]
    simp
  -- the turns
  rw [forS_ret (xs := (List.range 5).map fun i => D.int (0 + (i : Nat))) (by rfl)]
  refine Al.mono (forLoop_al (d := 16) (I := fun env => ∃ s8, env = [.no, .val .pen, s2, .val (.str sg), .val (S words), .val (S (leastP words)), .val bp, .val (S (words.reverse ++ words.take 1)), s8, s9, s10]) (fun x _ env ⟨t8, e⟩ => ?_) ⟨s8, rfl⟩) (fun r ⟨e1, s8', e2⟩ => ⟨e1, _, _, _, _, _, _, _, _, _, e2⟩) (by decide)
  subst e
  refine ⟨[.no, .val .pen, s2, .val (.str sg), .val (S words), .val (S (leastP words)), .val bp, .val (S (words.reverse ++ words.take 1)), .val x, s9, s10], rfl, ?_⟩
  have ask : Al (fun d => d = .bl true) 16 (callE 4 F__law_asked_right (consL (varE 1) (consL (varE 6) (consL (varE 3) (consL (varE 4) nilL)))) [.no, .val .pen, s2, .val (.str sg), .val (S words), .val (S (leastP words)), .val bp, .val (S (words.reverse ++ words.take 1)), .val x, s9, s10]) := by
    refine callE_to (ds := [.pen, bp, .str sg, S words]) rfl rfl ?_
    rw [← hbp]
    exact asked_al dr (by omega)
  unfold ifS notT boolT
  rw [M.bind_bind, M.bind_bind]
  refine Al.mono (Al.bind (e := 0) ask fun a ea => ?_) (fun _ z => z) (Nat.le_refl (16 + 0))
  subst ea
  exact Al.ret ⟨rfl, _, rfl⟩
theorem law_true : (B_law (env0 9)).All (fun r _ => isTrue r) (fun _ _ _ => False) 100000 := by
  refine Al.all (R := isTrue) (d := 720) ?_ (by decide) fun a k h => h
  show Al _ _ (B_law [.no, .val .pen, .no, .no, .no, .no, .no, .no, .no, .no, .no])
  unfold B_law
  refine Al.mono (seq_al (d := 720) (e := 0) (I := fun env => ∃ s2 s3 s4 s5 s6 s7 s8 s9 s10, env = [.no, .val .pen, s2, s3, s4, s5, s6, s7, s8, s9, s10]) ?_ fun env ⟨s2, s3, s4, s5, s6, s7, s8, s9, s10, e⟩ => ?_) (fun _ z => z) (Nat.le_refl (720 + 0))
  · rw [forS_ret (xs := (List.range 6).map fun i => D.int (0 + (i : Nat))) (by rfl)]
    refine Al.mono (forLoop_al (d := 120) (I := fun env => ∃ s2 s3 s4 s5 s6 s7 s8 s9 s10, env = [.no, .val .pen, s2, s3, s4, s5, s6, s7, s8, s9, s10]) (fun x _ env ⟨s2, s3, s4, s5, s6, s7, s8, s9, s10, e⟩ => ?_) ⟨.no, .no, .no, .no, .no, .no, .no, .no, .no, rfl⟩) (fun _ z => z) (by decide)
    subst e
    refine ⟨[.no, .val .pen, .val x, s3, s4, s5, s6, s7, s8, s9, s10], rfl, ?_⟩
    have hb : Al (fun d => ∃ sg ws, d = .tup [.str sg, S ws] ∧ Drawn sg ws) 40 (callE 1 F__law_some_bars (consL (varE 1) nilL) [.no, .val .pen, .val x, s3, s4, s5, s6, s7, s8, s9, s10]) := by
      refine callE_to (ds := [.pen]) rfl rfl ?_
      exact some_bars_al
    refine asgT_al (e := 80) hb fun d ⟨sg, ws, ed, dr⟩ => ⟨[.no, .val .pen, .val x, .val (.str sg), .val (S ws), s5, s6, s7, s8, s9, s10], by rw [ed]; rfl, lap_al dr⟩
  · subst e
    refine nx_al (env' := [.no, .val .pen, s2, s3, s4, s5, s6, s7, s8, .val (Bp "01" ["00", "111"] ["", "0", "1", "11"]), s10]) (asgS_name (by kernel_rfl)) ?_
    refine Al.eq (a := (.rt (.bl true), [.no, .val .pen, s2, s3, s4, s5, s6, s7, s8, .val (Bp "01" ["00", "111"] ["", "0", "1", "11"]), s10])) (by kernel_rfl) trivial
end K00

set_option Elab.async false
set_option linter.all false
set_option maxRecDepth 100000
set_option maxHeartbeats 4000000
namespace K00
open PySem PySem.Spec L2 DL
theorem all_mk {l : PySem.W.OpenLaw} {w : World} {K : PySem.W.Frag} {h : Heap} {mg : Str → Option Value} {fa : Addr} (hB : (B_law (env0 9)).All (fun r _ => isTrue r) (fun _ _ _ => False) 100000) (X : K.In h) (G : h.Ns mainGlobals mg) (hfa : mg "law" = some (.ref fa))
    {C_Bars : Addr}
    {f__law_pen : Addr} {od__law_pen an__law_pen : Option Addr} {sl__law_pen : Array (Option Value)} {oc__law_pen kV__law_pen dc__law_pen pm__law_pen cd__law_pen ct__law_pen : Value}
    {f__law_draw : Addr} {od__law_draw an__law_draw : Option Addr} {sl__law_draw : Array (Option Value)} {oc__law_draw kV__law_draw dc__law_draw pm__law_draw cd__law_draw ct__law_draw : Value}
    {f__law_holds : Addr} {od__law_holds an__law_holds : Option Addr} {sl__law_holds : Array (Option Value)} {oc__law_holds kV__law_holds dc__law_holds pm__law_holds cd__law_holds ct__law_holds : Value}
    {f_is_text : Addr} {od_is_text an_is_text : Option Addr} {sl_is_text : Array (Option Value)} {oc_is_text kV_is_text dc_is_text pm_is_text cd_is_text ct_is_text : Value}
    {f_least_words : Addr} {od_least_words an_least_words : Option Addr} {sl_least_words : Array (Option Value)} {oc_least_words kV_least_words dc_least_words pm_least_words cd_least_words ct_least_words : Value}
    {f_ends_of : Addr} {od_ends_of an_ends_of : Option Addr} {sl_ends_of : Array (Option Value)} {oc_ends_of kV_ends_of dc_ends_of pm_ends_of cd_ends_of ct_ends_of : Value}
    {f_is_signs : Addr} {od_is_signs an_is_signs : Option Addr} {sl_is_signs : Array (Option Value)} {oc_is_signs kV_is_signs dc_is_signs pm_is_signs cd_is_signs ct_is_signs : Value}
    {f_need_signs : Addr} {od_need_signs an_need_signs : Option Addr} {sl_need_signs : Array (Option Value)} {oc_need_signs kV_need_signs dc_need_signs pm_need_signs cd_need_signs ct_need_signs : Value}
    {f_Bars_holds : Addr} {od_Bars_holds an_Bars_holds : Option Addr} {sl_Bars_holds : Array (Option Value)} {oc_Bars_holds kV_Bars_holds dc_Bars_holds pm_Bars_holds cd_Bars_holds ct_Bars_holds : Value}
    {f_Bars_last_of : Addr} {od_Bars_last_of an_Bars_last_of : Option Addr} {sl_Bars_last_of : Array (Option Value)} {oc_Bars_last_of kV_Bars_last_of dc_Bars_last_of pm_Bars_last_of cd_Bars_last_of ct_Bars_last_of : Value}
    {f_Bars_end_of : Addr} {od_Bars_end_of an_Bars_end_of : Option Addr} {sl_Bars_end_of : Array (Option Value)} {oc_Bars_end_of kV_Bars_end_of dc_Bars_end_of pm_Bars_end_of cd_Bars_end_of ct_Bars_end_of : Value}
    {f_Bars_behind : Addr} {od_Bars_behind an_Bars_behind : Option Addr} {sl_Bars_behind : Array (Option Value)} {oc_Bars_behind kV_Bars_behind dc_Bars_behind pm_Bars_behind cd_Bars_behind ct_Bars_behind : Value}
    {f_Bars_contains : Addr} {od_Bars_contains an_Bars_contains : Option Addr} {sl_Bars_contains : Array (Option Value)} {oc_Bars_contains kV_Bars_contains dc_Bars_contains pm_Bars_contains cd_Bars_contains ct_Bars_contains : Value}
    {f_Bars_len : Addr} {od_Bars_len an_Bars_len : Option Addr} {sl_Bars_len : Array (Option Value)} {oc_Bars_len kV_Bars_len dc_Bars_len pm_Bars_len cd_Bars_len ct_Bars_len : Value}
    {f_Bars_iter : Addr} {od_Bars_iter an_Bars_iter : Option Addr} {sl_Bars_iter : Array (Option Value)} {oc_Bars_iter kV_Bars_iter dc_Bars_iter pm_Bars_iter cd_Bars_iter ct_Bars_iter : Value}
    {f_Bars_eq : Addr} {od_Bars_eq an_Bars_eq : Option Addr} {sl_Bars_eq : Array (Option Value)} {oc_Bars_eq kV_Bars_eq dc_Bars_eq pm_Bars_eq cd_Bars_eq ct_Bars_eq : Value}
    {f_Bars_init : Addr} {od_Bars_init an_Bars_init : Option Addr} {sl_Bars_init : Array (Option Value)} {oc_Bars_init kV_Bars_init dc_Bars_init pm_Bars_init cd_Bars_init ct_Bars_init : Value}
    {f_Bars_of : Addr} {od_Bars_of an_Bars_of : Option Addr} {sl_Bars_of : Array (Option Value)} {oc_Bars_of kV_Bars_of dc_Bars_of pm_Bars_of cd_Bars_of ct_Bars_of : Value}
    {p_Bars_of : Addr} {rs_Bars_of : List Value}
    {f__law_least_words : Addr} {od__law_least_words an__law_least_words : Option Addr} {sl__law_least_words : Array (Option Value)} {oc__law_least_words kV__law_least_words dc__law_least_words pm__law_least_words cd__law_least_words ct__law_least_words : Value}
    {f__law_ends : Addr} {od__law_ends an__law_ends : Option Addr} {sl__law_ends : Array (Option Value)} {oc__law_ends kV__law_ends dc__law_ends pm__law_ends cd__law_ends ct__law_ends : Value}
    {f__law_end : Addr} {od__law_end an__law_end : Option Addr} {sl__law_end : Array (Option Value)} {oc__law_end kV__law_end dc__law_end pm__law_end cd__law_end ct__law_end : Value}
    {f__law_behind : Addr} {od__law_behind an__law_behind : Option Addr} {sl__law_behind : Array (Option Value)} {oc__law_behind kV__law_behind dc__law_behind pm__law_behind cd__law_behind ct__law_behind : Value}
    {f__law_pick : Addr} {od__law_pick an__law_pick : Option Addr} {sl__law_pick : Array (Option Value)} {oc__law_pick kV__law_pick dc__law_pick pm__law_pick cd__law_pick ct__law_pick : Value}
    {f__law_word : Addr} {od__law_word an__law_word : Option Addr} {sl__law_word : Array (Option Value)} {oc__law_word kV__law_word dc__law_word pm__law_word cd__law_word ct__law_word : Value}
    {f__law_some_bars : Addr} {od__law_some_bars an__law_some_bars : Option Addr} {sl__law_some_bars : Array (Option Value)} {oc__law_some_bars kV__law_some_bars dc__law_some_bars pm__law_some_bars cd__law_some_bars ct__law_some_bars : Value}
    {f__law_asked_right : Addr} {od__law_asked_right an__law_asked_right : Option Addr} {sl__law_asked_right : Array (Option Value)} {oc__law_asked_right kV__law_asked_right dc__law_asked_right pm__law_asked_right cd__law_asked_right ct__law_asked_right : Value}
    {f_law : Addr} {od_law an_law : Option Addr} {sl_law : Array (Option Value)} {oc_law kV_law dc_law pm_law cd_law ct_law : Value}
    {t_MOST_ENDS : Tok}
    {t_MOST_LETTERS : Tok}
    {t_MOST_SIGNS : Tok}
    {t_MOST_WORDS : Tok}
    {t_SIGNS : Tok}
    (a_Bars : PySem.W.nsIn K mainGlobals "Bars" = some (some (.ref C_Bars)))
    (a__law_pen : PySem.W.nsIn K mainGlobals "_law_pen" = some (some (.ref f__law_pen)))
    (l__law_pen : K.lookup f__law_pen = some ⟨oc__law_pen, od__law_pen, .func (PySem.W.fnOf "_law_pen" "_law_pen" (defArgs st__law_pen) (defBody st__law_pen) (defScope st__law_pen) .none kV__law_pen dc__law_pen pm__law_pen an__law_pen cd__law_pen ct__law_pen), sl__law_pen⟩)
    (c__law_pen : PySem.W.codeIn K cd__law_pen "_law_pen" = true)
    (k__law_pen : PySem.W.keepIn K (.ref f__law_pen) = true)
    (a__law_draw : PySem.W.nsIn K mainGlobals "_law_draw" = some (some (.ref f__law_draw)))
    (l__law_draw : K.lookup f__law_draw = some ⟨oc__law_draw, od__law_draw, .func (PySem.W.fnOf "_law_draw" "_law_draw" (defArgs st__law_draw) (defBody st__law_draw) (defScope st__law_draw) .none kV__law_draw dc__law_draw pm__law_draw an__law_draw cd__law_draw ct__law_draw), sl__law_draw⟩)
    (c__law_draw : PySem.W.codeIn K cd__law_draw "_law_draw" = true)
    (k__law_draw : PySem.W.keepIn K (.ref f__law_draw) = true)
    (a__law_holds : PySem.W.nsIn K mainGlobals "_law_holds" = some (some (.ref f__law_holds)))
    (l__law_holds : K.lookup f__law_holds = some ⟨oc__law_holds, od__law_holds, .func (PySem.W.fnOf "_law_holds" "_law_holds" (defArgs st__law_holds) (defBody st__law_holds) (defScope st__law_holds) .none kV__law_holds dc__law_holds pm__law_holds an__law_holds cd__law_holds ct__law_holds), sl__law_holds⟩)
    (c__law_holds : PySem.W.codeIn K cd__law_holds "_law_holds" = true)
    (k__law_holds : PySem.W.keepIn K (.ref f__law_holds) = true)
    (a_is_text : PySem.W.nsIn K mainGlobals "is_text" = some (some (.ref f_is_text)))
    (l_is_text : K.lookup f_is_text = some ⟨oc_is_text, od_is_text, .func (PySem.W.fnOf "is_text" "is_text" (defArgs st_is_text) (defBody st_is_text) (defScope st_is_text) .none kV_is_text dc_is_text pm_is_text an_is_text cd_is_text ct_is_text), sl_is_text⟩)
    (c_is_text : PySem.W.codeIn K cd_is_text "is_text" = true)
    (k_is_text : PySem.W.keepIn K (.ref f_is_text) = true)
    (a_least_words : PySem.W.nsIn K mainGlobals "least_words" = some (some (.ref f_least_words)))
    (l_least_words : K.lookup f_least_words = some ⟨oc_least_words, od_least_words, .func (PySem.W.fnOf "least_words" "least_words" (defArgs st_least_words) (defBody st_least_words) (defScope st_least_words) .none kV_least_words dc_least_words pm_least_words an_least_words cd_least_words ct_least_words), sl_least_words⟩)
    (c_least_words : PySem.W.codeIn K cd_least_words "least_words" = true)
    (k_least_words : PySem.W.keepIn K (.ref f_least_words) = true)
    (a_ends_of : PySem.W.nsIn K mainGlobals "ends_of" = some (some (.ref f_ends_of)))
    (l_ends_of : K.lookup f_ends_of = some ⟨oc_ends_of, od_ends_of, .func (PySem.W.fnOf "ends_of" "ends_of" (defArgs st_ends_of) (defBody st_ends_of) (defScope st_ends_of) .none kV_ends_of dc_ends_of pm_ends_of an_ends_of cd_ends_of ct_ends_of), sl_ends_of⟩)
    (c_ends_of : PySem.W.codeIn K cd_ends_of "ends_of" = true)
    (k_ends_of : PySem.W.keepIn K (.ref f_ends_of) = true)
    (a_is_signs : PySem.W.nsIn K mainGlobals "is_signs" = some (some (.ref f_is_signs)))
    (l_is_signs : K.lookup f_is_signs = some ⟨oc_is_signs, od_is_signs, .func (PySem.W.fnOf "is_signs" "is_signs" (defArgs st_is_signs) (defBody st_is_signs) (defScope st_is_signs) .none kV_is_signs dc_is_signs pm_is_signs an_is_signs cd_is_signs ct_is_signs), sl_is_signs⟩)
    (c_is_signs : PySem.W.codeIn K cd_is_signs "is_signs" = true)
    (k_is_signs : PySem.W.keepIn K (.ref f_is_signs) = true)
    (a_need_signs : PySem.W.nsIn K mainGlobals "need_signs" = some (some (.ref f_need_signs)))
    (l_need_signs : K.lookup f_need_signs = some ⟨oc_need_signs, od_need_signs, .func (PySem.W.fnOf "need_signs" "need_signs" (defArgs st_need_signs) (defBody st_need_signs) (defScope st_need_signs) .none kV_need_signs dc_need_signs pm_need_signs an_need_signs cd_need_signs ct_need_signs), sl_need_signs⟩)
    (c_need_signs : PySem.W.codeIn K cd_need_signs "need_signs" = true)
    (k_need_signs : PySem.W.keepIn K (.ref f_need_signs) = true)
    (a_Bars_holds : PySem.W.findIn K (.ref C_Bars) "holds" = some (some (.ref f_Bars_holds)))
    (i_Bars_holds : PySem.W.isFn K (.ref f_Bars_holds) = true)
    (l_Bars_holds : K.lookup f_Bars_holds = some ⟨oc_Bars_holds, od_Bars_holds, .func (PySem.W.fnOf "holds" "Bars.holds" (defArgs st_Bars_holds) (defBody st_Bars_holds) (defScope st_Bars_holds) .none kV_Bars_holds dc_Bars_holds pm_Bars_holds an_Bars_holds cd_Bars_holds ct_Bars_holds), sl_Bars_holds⟩)
    (c_Bars_holds : PySem.W.codeIn K cd_Bars_holds "Bars.holds" = true)
    (k_Bars_holds : PySem.W.keepIn K (.ref f_Bars_holds) = true)
    (a_Bars_last_of : PySem.W.findIn K (.ref C_Bars) "last_of" = some (some (.ref f_Bars_last_of)))
    (i_Bars_last_of : PySem.W.isFn K (.ref f_Bars_last_of) = true)
    (l_Bars_last_of : K.lookup f_Bars_last_of = some ⟨oc_Bars_last_of, od_Bars_last_of, .func (PySem.W.fnOf "last_of" "Bars.last_of" (defArgs st_Bars_last_of) (defBody st_Bars_last_of) (defScope st_Bars_last_of) .none kV_Bars_last_of dc_Bars_last_of pm_Bars_last_of an_Bars_last_of cd_Bars_last_of ct_Bars_last_of), sl_Bars_last_of⟩)
    (c_Bars_last_of : PySem.W.codeIn K cd_Bars_last_of "Bars.last_of" = true)
    (k_Bars_last_of : PySem.W.keepIn K (.ref f_Bars_last_of) = true)
    (a_Bars_end_of : PySem.W.findIn K (.ref C_Bars) "end_of" = some (some (.ref f_Bars_end_of)))
    (i_Bars_end_of : PySem.W.isFn K (.ref f_Bars_end_of) = true)
    (l_Bars_end_of : K.lookup f_Bars_end_of = some ⟨oc_Bars_end_of, od_Bars_end_of, .func (PySem.W.fnOf "end_of" "Bars.end_of" (defArgs st_Bars_end_of) (defBody st_Bars_end_of) (defScope st_Bars_end_of) .none kV_Bars_end_of dc_Bars_end_of pm_Bars_end_of an_Bars_end_of cd_Bars_end_of ct_Bars_end_of), sl_Bars_end_of⟩)
    (c_Bars_end_of : PySem.W.codeIn K cd_Bars_end_of "Bars.end_of" = true)
    (k_Bars_end_of : PySem.W.keepIn K (.ref f_Bars_end_of) = true)
    (a_Bars_behind : PySem.W.findIn K (.ref C_Bars) "behind" = some (some (.ref f_Bars_behind)))
    (i_Bars_behind : PySem.W.isFn K (.ref f_Bars_behind) = true)
    (l_Bars_behind : K.lookup f_Bars_behind = some ⟨oc_Bars_behind, od_Bars_behind, .func (PySem.W.fnOf "behind" "Bars.behind" (defArgs st_Bars_behind) (defBody st_Bars_behind) (defScope st_Bars_behind) .none kV_Bars_behind dc_Bars_behind pm_Bars_behind an_Bars_behind cd_Bars_behind ct_Bars_behind), sl_Bars_behind⟩)
    (c_Bars_behind : PySem.W.codeIn K cd_Bars_behind "Bars.behind" = true)
    (k_Bars_behind : PySem.W.keepIn K (.ref f_Bars_behind) = true)
    (a_Bars_contains : PySem.W.findIn K (.ref C_Bars) "__contains__" = some (some (.ref f_Bars_contains)))
    (i_Bars_contains : PySem.W.isFn K (.ref f_Bars_contains) = true)
    (l_Bars_contains : K.lookup f_Bars_contains = some ⟨oc_Bars_contains, od_Bars_contains, .func (PySem.W.fnOf "__contains__" "Bars.__contains__" (defArgs st_Bars_contains) (defBody st_Bars_contains) (defScope st_Bars_contains) .none kV_Bars_contains dc_Bars_contains pm_Bars_contains an_Bars_contains cd_Bars_contains ct_Bars_contains), sl_Bars_contains⟩)
    (c_Bars_contains : PySem.W.codeIn K cd_Bars_contains "Bars.__contains__" = true)
    (k_Bars_contains : PySem.W.keepIn K (.ref f_Bars_contains) = true)
    (a_Bars_len : PySem.W.findIn K (.ref C_Bars) "__len__" = some (some (.ref f_Bars_len)))
    (i_Bars_len : PySem.W.isFn K (.ref f_Bars_len) = true)
    (l_Bars_len : K.lookup f_Bars_len = some ⟨oc_Bars_len, od_Bars_len, .func (PySem.W.fnOf "__len__" "Bars.__len__" (defArgs st_Bars_len) (defBody st_Bars_len) (defScope st_Bars_len) .none kV_Bars_len dc_Bars_len pm_Bars_len an_Bars_len cd_Bars_len ct_Bars_len), sl_Bars_len⟩)
    (c_Bars_len : PySem.W.codeIn K cd_Bars_len "Bars.__len__" = true)
    (k_Bars_len : PySem.W.keepIn K (.ref f_Bars_len) = true)
    (a_Bars_iter : PySem.W.findIn K (.ref C_Bars) "__iter__" = some (some (.ref f_Bars_iter)))
    (i_Bars_iter : PySem.W.isFn K (.ref f_Bars_iter) = true)
    (l_Bars_iter : K.lookup f_Bars_iter = some ⟨oc_Bars_iter, od_Bars_iter, .func (PySem.W.fnOf "__iter__" "Bars.__iter__" (defArgs st_Bars_iter) (defBody st_Bars_iter) (defScope st_Bars_iter) .none kV_Bars_iter dc_Bars_iter pm_Bars_iter an_Bars_iter cd_Bars_iter ct_Bars_iter), sl_Bars_iter⟩)
    (c_Bars_iter : PySem.W.codeIn K cd_Bars_iter "Bars.__iter__" = true)
    (k_Bars_iter : PySem.W.keepIn K (.ref f_Bars_iter) = true)
    (a_Bars_eq : PySem.W.findIn K (.ref C_Bars) "__eq__" = some (some (.ref f_Bars_eq)))
    (i_Bars_eq : PySem.W.isFn K (.ref f_Bars_eq) = true)
    (l_Bars_eq : K.lookup f_Bars_eq = some ⟨oc_Bars_eq, od_Bars_eq, .func (PySem.W.fnOf "__eq__" "Bars.__eq__" (defArgs st_Bars_eq) (defBody st_Bars_eq) (defScope st_Bars_eq) .none kV_Bars_eq dc_Bars_eq pm_Bars_eq an_Bars_eq cd_Bars_eq ct_Bars_eq), sl_Bars_eq⟩)
    (c_Bars_eq : PySem.W.codeIn K cd_Bars_eq "Bars.__eq__" = true)
    (k_Bars_eq : PySem.W.keepIn K (.ref f_Bars_eq) = true)
    (a_Bars_init : PySem.W.findIn K (.ref C_Bars) "__init__" = some (some (.ref f_Bars_init)))
    (i_Bars_init : PySem.W.isFn K (.ref f_Bars_init) = true)
    (l_Bars_init : K.lookup f_Bars_init = some ⟨oc_Bars_init, od_Bars_init, .func (PySem.W.fnOf "__init__" "Bars.__init__" (defArgs st_Bars_init) (defBody st_Bars_init) (defScope st_Bars_init) .none kV_Bars_init dc_Bars_init pm_Bars_init an_Bars_init cd_Bars_init ct_Bars_init), sl_Bars_init⟩)
    (c_Bars_init : PySem.W.codeIn K cd_Bars_init "Bars.__init__" = true)
    (k_Bars_init : PySem.W.keepIn K (.ref f_Bars_init) = true)
    (rd_Bars_of : PySem.W.readsIn K C_Bars (.type "type") = true)
    (ga_Bars_of : PySem.W.specialIn K (.ref C_Bars) "__getattribute__" = some (some (.builtin "type.__getattribute__")))
    (a_Bars_of : PySem.W.findCls K (.ref C_Bars) (.type "type") "of" = some (.get (.builtin "staticmethod.__get__") (.ref p_Bars_of) .none (.ref C_Bars)))
    (rc_Bars_of : PySem.W.recIn K p_Bars_of "staticmethod" = some (.ref f_Bars_of :: rs_Bars_of))
    (l_Bars_of : K.lookup f_Bars_of = some ⟨oc_Bars_of, od_Bars_of, .func (PySem.W.fnOf "of" "Bars.of" (defArgs st_Bars_of) (defBody st_Bars_of) (defScope st_Bars_of) .none kV_Bars_of dc_Bars_of pm_Bars_of an_Bars_of cd_Bars_of ct_Bars_of), sl_Bars_of⟩)
    (c_Bars_of : PySem.W.codeIn K cd_Bars_of "Bars.of" = true)
    (k_Bars_of : PySem.W.keepIn K (.ref f_Bars_of) = true)
    (a__law_least_words : PySem.W.nsIn K mainGlobals "_law_least_words" = some (some (.ref f__law_least_words)))
    (l__law_least_words : K.lookup f__law_least_words = some ⟨oc__law_least_words, od__law_least_words, .func (PySem.W.fnOf "_law_least_words" "_law_least_words" (defArgs st__law_least_words) (defBody st__law_least_words) (defScope st__law_least_words) .none kV__law_least_words dc__law_least_words pm__law_least_words an__law_least_words cd__law_least_words ct__law_least_words), sl__law_least_words⟩)
    (c__law_least_words : PySem.W.codeIn K cd__law_least_words "_law_least_words" = true)
    (k__law_least_words : PySem.W.keepIn K (.ref f__law_least_words) = true)
    (a__law_ends : PySem.W.nsIn K mainGlobals "_law_ends" = some (some (.ref f__law_ends)))
    (l__law_ends : K.lookup f__law_ends = some ⟨oc__law_ends, od__law_ends, .func (PySem.W.fnOf "_law_ends" "_law_ends" (defArgs st__law_ends) (defBody st__law_ends) (defScope st__law_ends) .none kV__law_ends dc__law_ends pm__law_ends an__law_ends cd__law_ends ct__law_ends), sl__law_ends⟩)
    (c__law_ends : PySem.W.codeIn K cd__law_ends "_law_ends" = true)
    (k__law_ends : PySem.W.keepIn K (.ref f__law_ends) = true)
    (a__law_end : PySem.W.nsIn K mainGlobals "_law_end" = some (some (.ref f__law_end)))
    (l__law_end : K.lookup f__law_end = some ⟨oc__law_end, od__law_end, .func (PySem.W.fnOf "_law_end" "_law_end" (defArgs st__law_end) (defBody st__law_end) (defScope st__law_end) .none kV__law_end dc__law_end pm__law_end an__law_end cd__law_end ct__law_end), sl__law_end⟩)
    (c__law_end : PySem.W.codeIn K cd__law_end "_law_end" = true)
    (k__law_end : PySem.W.keepIn K (.ref f__law_end) = true)
    (a__law_behind : PySem.W.nsIn K mainGlobals "_law_behind" = some (some (.ref f__law_behind)))
    (l__law_behind : K.lookup f__law_behind = some ⟨oc__law_behind, od__law_behind, .func (PySem.W.fnOf "_law_behind" "_law_behind" (defArgs st__law_behind) (defBody st__law_behind) (defScope st__law_behind) .none kV__law_behind dc__law_behind pm__law_behind an__law_behind cd__law_behind ct__law_behind), sl__law_behind⟩)
    (c__law_behind : PySem.W.codeIn K cd__law_behind "_law_behind" = true)
    (k__law_behind : PySem.W.keepIn K (.ref f__law_behind) = true)
    (a__law_pick : PySem.W.nsIn K mainGlobals "_law_pick" = some (some (.ref f__law_pick)))
    (l__law_pick : K.lookup f__law_pick = some ⟨oc__law_pick, od__law_pick, .func (PySem.W.fnOf "_law_pick" "_law_pick" (defArgs st__law_pick) (defBody st__law_pick) (defScope st__law_pick) .none kV__law_pick dc__law_pick pm__law_pick an__law_pick cd__law_pick ct__law_pick), sl__law_pick⟩)
    (c__law_pick : PySem.W.codeIn K cd__law_pick "_law_pick" = true)
    (k__law_pick : PySem.W.keepIn K (.ref f__law_pick) = true)
    (a__law_word : PySem.W.nsIn K mainGlobals "_law_word" = some (some (.ref f__law_word)))
    (l__law_word : K.lookup f__law_word = some ⟨oc__law_word, od__law_word, .func (PySem.W.fnOf "_law_word" "_law_word" (defArgs st__law_word) (defBody st__law_word) (defScope st__law_word) .none kV__law_word dc__law_word pm__law_word an__law_word cd__law_word ct__law_word), sl__law_word⟩)
    (c__law_word : PySem.W.codeIn K cd__law_word "_law_word" = true)
    (k__law_word : PySem.W.keepIn K (.ref f__law_word) = true)
    (a__law_some_bars : PySem.W.nsIn K mainGlobals "_law_some_bars" = some (some (.ref f__law_some_bars)))
    (l__law_some_bars : K.lookup f__law_some_bars = some ⟨oc__law_some_bars, od__law_some_bars, .func (PySem.W.fnOf "_law_some_bars" "_law_some_bars" (defArgs st__law_some_bars) (defBody st__law_some_bars) (defScope st__law_some_bars) .none kV__law_some_bars dc__law_some_bars pm__law_some_bars an__law_some_bars cd__law_some_bars ct__law_some_bars), sl__law_some_bars⟩)
    (c__law_some_bars : PySem.W.codeIn K cd__law_some_bars "_law_some_bars" = true)
    (k__law_some_bars : PySem.W.keepIn K (.ref f__law_some_bars) = true)
    (a__law_asked_right : PySem.W.nsIn K mainGlobals "_law_asked_right" = some (some (.ref f__law_asked_right)))
    (l__law_asked_right : K.lookup f__law_asked_right = some ⟨oc__law_asked_right, od__law_asked_right, .func (PySem.W.fnOf "_law_asked_right" "_law_asked_right" (defArgs st__law_asked_right) (defBody st__law_asked_right) (defScope st__law_asked_right) .none kV__law_asked_right dc__law_asked_right pm__law_asked_right an__law_asked_right cd__law_asked_right ct__law_asked_right), sl__law_asked_right⟩)
    (c__law_asked_right : PySem.W.codeIn K cd__law_asked_right "_law_asked_right" = true)
    (k__law_asked_right : PySem.W.keepIn K (.ref f__law_asked_right) = true)
    (a_law : PySem.W.nsIn K mainGlobals "law" = some (some (.ref f_law)))
    (l_law : K.lookup f_law = some ⟨oc_law, od_law, .func (PySem.W.fnOf "law" "law" (defArgs st_law) (defBody st_law) (defScope st_law) .none kV_law dc_law pm_law an_law cd_law ct_law), sl_law⟩)
    (c_law : PySem.W.codeIn K cd_law "law" = true)
    (k_law : PySem.W.keepIn K (.ref f_law) = true)
    (pg_Bars : PySem.W.plainGet K C_Bars Str.empty = true)
    (hd_Bars : PySem.W.hasDictIn K C_Bars = true)
    (po_Bars : PySem.W.plainOver K C_Bars = true)
    (sa_Bars : PySem.W.findIn K (.ref C_Bars) "__setattr__" = some (some (.builtin "object.__setattr__")))
    (mk_Bars : PySem.W.makesIn K C_Bars = true)
    (kc_Bars : PySem.W.keepIn K (.ref C_Bars) = true)
    (ha_Bars : PySem.W.findIn K (.ref C_Bars) "__class__" = some (some (.builtin "object.__class__")))
    (hn_Bars : PySem.W.specialIn K (.builtin "object.__class__") "__get__" = some (some (.builtin "getset_descriptor.__get__")))
    (ht_Bars : PySem.W.takesIn K (.builtin "object.__class__") = some true)
    (hm_Bars : PySem.W.mroIn K C_Bars (.type "object") = some true)
    (n_Bars_ends : PySem.W.findIn K (.ref C_Bars) "ends" = some none)
    (n_Bars_signs : PySem.W.findIn K (.ref C_Bars) "signs" = some none)
    (n_Bars_words : PySem.W.findIn K (.ref C_Bars) "words" = some none)
    (sb_NoneType_Bars : PySem.W.subIn K (.type "NoneType") (.ref C_Bars) = some false)
    (sb_bool_Bars : PySem.W.subIn K (.type "bool") (.ref C_Bars) = some false)
    (sb_int_Bars : PySem.W.subIn K (.type "int") (.ref C_Bars) = some false)
    (sb_str_Bars : PySem.W.subIn K (.type "str") (.ref C_Bars) = some false)
    (sb_tuple_Bars : PySem.W.subIn K (.type "tuple") (.ref C_Bars) = some false)
    (sb_list_Bars : PySem.W.subIn K (.type "list") (.ref C_Bars) = some false)
    (sb_dict_Bars : PySem.W.subIn K (.type "dict") (.ref C_Bars) = some false)
    (ic_Bars : PySem.W.isClsIn K C_Bars = true)
    (ty0_Bars : PySem.W.typeIn K (.ref C_Bars) = some (.type "type"))
    (st_Bars_list : PySem.W.subIn K (.ref C_Bars) (.type "list") = some false)
    (st_Bars_str : PySem.W.subIn K (.ref C_Bars) (.type "str") = some false)
    (st_Bars_tuple : PySem.W.subIn K (.ref C_Bars) (.type "tuple") = some false)
    (ne_Bars : PySem.W.findIn K (.ref C_Bars) "__ne__" = some (some (.builtin "object.__ne__")))
    (so_Bars : PySem.W.subIn K (.ref C_Bars) (.type "object") = some true)
    (z_abs : PySem.W.nsIn K mainGlobals "abs" = some none)
    (z_all : PySem.W.nsIn K mainGlobals "all" = some none)
    (z_any : PySem.W.nsIn K mainGlobals "any" = some none)
    (z_int : PySem.W.nsIn K mainGlobals "int" = some none)
    (z_isinstance : PySem.W.nsIn K mainGlobals "isinstance" = some none)
    (z_iter : PySem.W.nsIn K mainGlobals "iter" = some none)
    (z_len : PySem.W.nsIn K mainGlobals "len" = some none)
    (z_list : PySem.W.nsIn K mainGlobals "list" = some none)
    (z_range : PySem.W.nsIn K mainGlobals "range" = some none)
    (z_repr : PySem.W.nsIn K mainGlobals "repr" = some none)
    (z_sorted : PySem.W.nsIn K mainGlobals "sorted" = some none)
    (z_str : PySem.W.nsIn K mainGlobals "str" = some none)
    (z_tuple : PySem.W.nsIn K mainGlobals "tuple" = some none)
    (v_MOST_ENDS : PySem.W.nsIn K mainGlobals "MOST_ENDS" = some (some (.int (16) t_MOST_ENDS)))
    (v_MOST_LETTERS : PySem.W.nsIn K mainGlobals "MOST_LETTERS" = some (some (.int (6) t_MOST_LETTERS)))
    (v_MOST_SIGNS : PySem.W.nsIn K mainGlobals "MOST_SIGNS" = some (some (.int (4) t_MOST_SIGNS)))
    (v_MOST_WORDS : PySem.W.nsIn K mainGlobals "MOST_WORDS" = some (some (.int (6) t_MOST_WORDS)))
    (v_SIGNS : PySem.W.nsIn K mainGlobals "SIGNS" = some (some (.str ("0123456789abcdefghijklmnopqrstuvwxyz") t_SIGNS)))
    : ∃ fd : FuncData, (∀ (s : Shared) (v : Value), BindsTo s fd ⟨[v], []⟩ [("script", v)]) ∧ ∀ base : Heap, K.In base → base.Ns mainGlobals mg → FnG l.prog w K mg base (L2.CX l.prog w) 6 fa fd ["script"] (spLaw K) := by
  have e := hfa.symm.trans (PySem.W.mg_of X G a_law)
  cases e
  have hC_Bars := PySem.W.mg_of X G a_Bars
  have cl_Bars : Cls K C_Bars := ⟨pg_Bars, hd_Bars, po_Bars, sa_Bars⟩
  have ty_Bars : TyIns K C_Bars := ⟨cl_Bars, ha_Bars, hn_Bars, ht_Bars, hm_Bars⟩
  have kt_NoneType_Bars := kit_own ic_Bars ty0_Bars sb_NoneType_Bars
  have kt_bool_Bars := kit_own ic_Bars ty0_Bars sb_bool_Bars
  have kt_int_Bars := kit_own ic_Bars ty0_Bars sb_int_Bars
  have kt_str_Bars := kit_own ic_Bars ty0_Bars sb_str_Bars
  have kt_tuple_Bars := kit_own ic_Bars ty0_Bars sb_tuple_Bars
  have kt_list_Bars := kit_own ic_Bars ty0_Bars sb_list_Bars
  have kt_dict_Bars := kit_own ic_Bars ty0_Bars sb_dict_Bars
  have kt_Bars_list := kit_blt (s := "list") (by decide +kernel) st_Bars_list
  have kt_Bars_str := kit_blt (s := "str") (by decide +kernel) st_Bars_str
  have kt_Bars_tuple := kit_blt (s := "tuple") (by decide +kernel) st_Bars_tuple
  have T : Txt K mg := {
    b_abs := PySem.W.mg_none_of X G z_abs
    b_all := PySem.W.mg_none_of X G z_all
    b_any := PySem.W.mg_none_of X G z_any
    b_int := PySem.W.mg_none_of X G z_int
    b_isinstance := PySem.W.mg_none_of X G z_isinstance
    b_iter := PySem.W.mg_none_of X G z_iter
    b_len := PySem.W.mg_none_of X G z_len
    b_list := PySem.W.mg_none_of X G z_list
    b_range := PySem.W.mg_none_of X G z_range
    b_repr := PySem.W.mg_none_of X G z_repr
    b_sorted := PySem.W.mg_none_of X G z_sorted
    b_str := PySem.W.mg_none_of X G z_str
    b_tuple := PySem.W.mg_none_of X G z_tuple
    c_MOST_ENDS := ⟨_, PySem.W.mg_of X G v_MOST_ENDS, ⟨_, rfl⟩⟩
    c_MOST_LETTERS := ⟨_, PySem.W.mg_of X G v_MOST_LETTERS, ⟨_, rfl⟩⟩
    c_MOST_SIGNS := ⟨_, PySem.W.mg_of X G v_MOST_SIGNS, ⟨_, rfl⟩⟩
    c_MOST_WORDS := ⟨_, PySem.W.mg_of X G v_MOST_WORDS, ⟨_, rfl⟩⟩
    c_SIGNS := ⟨_, PySem.W.mg_of X G v_SIGNS, ⟨_, rfl⟩⟩
    f_ends := fun c hc C' hC' => by
      have hc : c = "Bars" := by simpa [fc_ends] using hc
      rcases hc with hc
      all_goals
        first
        | (obtain rfl := hc; have e := hC_Bars.symm.trans hC'; cases e; exact ⟨cl_Bars, n_Bars_ends⟩)
    f_signs := fun c hc C' hC' => by
      have hc : c = "Bars" := by simpa [fc_signs] using hc
      rcases hc with hc
      all_goals
        first
        | (obtain rfl := hc; have e := hC_Bars.symm.trans hC'; cases e; exact ⟨cl_Bars, n_Bars_signs⟩)
    f_words := fun c hc C' hC' => by
      have hc : c = "Bars" := by simpa [fc_words] using hc
      rcases hc with hc
      all_goals
        first
        | (obtain rfl := hc; have e := hC_Bars.symm.trans hC'; cases e; exact ⟨cl_Bars, n_Bars_words⟩)
    g_Bars := ⟨_, hC_Bars⟩
    i_Bars := fun C0 hC0 => by
      have e0 := hC_Bars.symm.trans hC0
      cases e0
      exact ⟨fun st r hr => (by
      have hm := lk_mem hr
      simp only [List.mem_cons, Prod.mk.injEq, List.not_mem_nil, or_false] at hm
      rcases hm with ⟨rfl, rfl⟩ | ⟨rfl, rfl⟩ | ⟨rfl, rfl⟩ | ⟨rfl, rfl⟩ | ⟨rfl, rfl⟩ | ⟨rfl, rfl⟩ | ⟨rfl, rfl⟩
      · exact ⟨by decide +kernel, kt_NoneType_Bars⟩
      · exact ⟨by decide +kernel, kt_bool_Bars⟩
      · exact ⟨by decide +kernel, kt_int_Bars⟩
      · exact ⟨by decide +kernel, kt_str_Bars⟩
      · exact ⟨by decide +kernel, kt_tuple_Bars⟩
      · exact ⟨by decide +kernel, kt_list_Bars⟩
      · exact ⟨by decide +kernel, kt_dict_Bars⟩), fun c r hr C' hC' => (by
        have hm := lk_mem hr
        simp only [List.mem_cons, Prod.mk.injEq, List.not_mem_nil, or_false] at hm
        obtain ⟨rfl, rfl⟩ := hm
        · have e := hC_Bars.symm.trans hC'; cases e; exact ⟨ty_Bars, by unfold PySem.W.kitOne; rw [if_pos (by simp)]⟩)⟩
    i_list := ⟨fun st r hr => (by
      have hm := lk_mem hr
      simp only [List.mem_cons, Prod.mk.injEq, List.not_mem_nil, or_false] at hm
      rcases hm with ⟨rfl, rfl⟩ | ⟨rfl, rfl⟩ | ⟨rfl, rfl⟩ | ⟨rfl, rfl⟩ | ⟨rfl, rfl⟩ | ⟨rfl, rfl⟩ | ⟨rfl, rfl⟩
      · exact ⟨by decide +kernel, kit_ty (by decide +kernel)⟩
      · exact ⟨by decide +kernel, kit_ty (by decide +kernel)⟩
      · exact ⟨by decide +kernel, kit_ty (by decide +kernel)⟩
      · exact ⟨by decide +kernel, kit_ty (by decide +kernel)⟩
      · exact ⟨by decide +kernel, kit_ty (by decide +kernel)⟩
      · exact ⟨by decide +kernel, kit_ty (by decide +kernel)⟩
      · exact ⟨by decide +kernel, kit_ty (by decide +kernel)⟩), fun c r hr C' hC' => (by
        have hm := lk_mem hr
        simp only [List.mem_cons, Prod.mk.injEq, List.not_mem_nil, or_false] at hm
        obtain ⟨rfl, rfl⟩ := hm
        · have e := hC_Bars.symm.trans hC'; cases e; exact ⟨ty_Bars, kt_Bars_list⟩)⟩
    i_str := ⟨fun st r hr => (by
      have hm := lk_mem hr
      simp only [List.mem_cons, Prod.mk.injEq, List.not_mem_nil, or_false] at hm
      rcases hm with ⟨rfl, rfl⟩ | ⟨rfl, rfl⟩ | ⟨rfl, rfl⟩ | ⟨rfl, rfl⟩ | ⟨rfl, rfl⟩ | ⟨rfl, rfl⟩ | ⟨rfl, rfl⟩
      · exact ⟨by decide +kernel, kit_ty (by decide +kernel)⟩
      · exact ⟨by decide +kernel, kit_ty (by decide +kernel)⟩
      · exact ⟨by decide +kernel, kit_ty (by decide +kernel)⟩
      · exact ⟨by decide +kernel, kit_ty (by decide +kernel)⟩
      · exact ⟨by decide +kernel, kit_ty (by decide +kernel)⟩
      · exact ⟨by decide +kernel, kit_ty (by decide +kernel)⟩
      · exact ⟨by decide +kernel, kit_ty (by decide +kernel)⟩), fun c r hr C' hC' => (by
        have hm := lk_mem hr
        simp only [List.mem_cons, Prod.mk.injEq, List.not_mem_nil, or_false] at hm
        obtain ⟨rfl, rfl⟩ := hm
        · have e := hC_Bars.symm.trans hC'; cases e; exact ⟨ty_Bars, kt_Bars_str⟩)⟩
    i_tuple := ⟨fun st r hr => (by
      have hm := lk_mem hr
      simp only [List.mem_cons, Prod.mk.injEq, List.not_mem_nil, or_false] at hm
      rcases hm with ⟨rfl, rfl⟩ | ⟨rfl, rfl⟩ | ⟨rfl, rfl⟩ | ⟨rfl, rfl⟩ | ⟨rfl, rfl⟩ | ⟨rfl, rfl⟩ | ⟨rfl, rfl⟩
      · exact ⟨by decide +kernel, kit_ty (by decide +kernel)⟩
      · exact ⟨by decide +kernel, kit_ty (by decide +kernel)⟩
      · exact ⟨by decide +kernel, kit_ty (by decide +kernel)⟩
      · exact ⟨by decide +kernel, kit_ty (by decide +kernel)⟩
      · exact ⟨by decide +kernel, kit_ty (by decide +kernel)⟩
      · exact ⟨by decide +kernel, kit_ty (by decide +kernel)⟩
      · exact ⟨by decide +kernel, kit_ty (by decide +kernel)⟩), fun c r hr C' hC' => (by
        have hm := lk_mem hr
        simp only [List.mem_cons, Prod.mk.injEq, List.not_mem_nil, or_false] at hm
        obtain ⟨rfl, rfl⟩ := hm
        · have e := hC_Bars.symm.trans hC'; cases e; exact ⟨ty_Bars, kt_Bars_tuple⟩)⟩ }
  have te_Bars' : CmpTab K mg C_Bars te_Bars := ⟨fun st hr => (by
    have hr := of_decide_eq_true hr
    rcases hr with rfl | rfl | rfl | rfl | rfl | rfl | rfl
    · exact ⟨by decide +kernel, by unfold PySem.W.notFirst; rw [sb_NoneType_Bars]; rw [Bool.or_eq_true]; exact Or.inr (by decide)⟩
    · exact ⟨by decide +kernel, by unfold PySem.W.notFirst; rw [sb_bool_Bars]; rw [Bool.or_eq_true]; exact Or.inr (by decide)⟩
    · exact ⟨by decide +kernel, by unfold PySem.W.notFirst; rw [sb_int_Bars]; rw [Bool.or_eq_true]; exact Or.inr (by decide)⟩
    · exact ⟨by decide +kernel, by unfold PySem.W.notFirst; rw [sb_str_Bars]; rw [Bool.or_eq_true]; exact Or.inr (by decide)⟩
    · exact ⟨by decide +kernel, by unfold PySem.W.notFirst; rw [sb_tuple_Bars]; rw [Bool.or_eq_true]; exact Or.inr (by decide)⟩
    · exact ⟨by decide +kernel, by unfold PySem.W.notFirst; rw [sb_list_Bars]; rw [Bool.or_eq_true]; exact Or.inr (by decide)⟩
    · exact ⟨by decide +kernel, by unfold PySem.W.notFirst; rw [sb_dict_Bars]; rw [Bool.or_eq_true]; exact Or.inr (by decide)⟩), fun c hr C' hC' => (by
    have hr := of_decide_eq_true hr
    subst hr
    · have e := hC_Bars.symm.trans hC'
      cases e
      exact ⟨ty_Bars, by unfold PySem.W.notFirst; simp⟩)⟩
  have F__law_pen_ := fun_mk (st := st__law_pen) l__law_pen c__law_pen k__law_pen
  have b__law_pen := F__law_pen_.binds (ps := ["script"]) fun _ _ _ _ _ _ us hl => match us, hl with | [_], _ => by kernel_rfl
  have F__law_draw_ := fun_mk (st := st__law_draw) l__law_draw c__law_draw k__law_draw
  have b__law_draw := F__law_draw_.binds (ps := ["pen", "many"]) fun _ _ _ _ _ _ us hl => match us, hl with | [_, _], _ => by kernel_rfl
  have F__law_holds_ := fun_mk (st := st__law_holds) l__law_holds c__law_holds k__law_holds
  have b__law_holds := F__law_holds_.binds (ps := ["words", "text"]) fun _ _ _ _ _ _ us hl => match us, hl with | [_, _], _ => by kernel_rfl
  have F_is_text_ := fun_mk (st := st_is_text) l_is_text c_is_text k_is_text
  have b_is_text := F_is_text_.binds (ps := ["value", "signs"]) fun _ _ _ _ _ _ us hl => match us, hl with | [_, _], _ => by kernel_rfl
  have F_least_words_ := fun_mk (st := st_least_words) l_least_words c_least_words k_least_words
  have b_least_words := F_least_words_.binds (ps := ["words"]) fun _ _ _ _ _ _ us hl => match us, hl with | [_], _ => by kernel_rfl
  have F_ends_of_ := fun_mk (st := st_ends_of) l_ends_of c_ends_of k_ends_of
  have b_ends_of := F_ends_of_.binds (ps := ["words"]) fun _ _ _ _ _ _ us hl => match us, hl with | [_], _ => by kernel_rfl
  have F_is_signs_ := fun_mk (st := st_is_signs) l_is_signs c_is_signs k_is_signs
  have b_is_signs := F_is_signs_.binds (ps := ["value"]) fun _ _ _ _ _ _ us hl => match us, hl with | [_], _ => by kernel_rfl
  have F_need_signs_ := fun_mk (st := st_need_signs) l_need_signs c_need_signs k_need_signs
  have b_need_signs := F_need_signs_.binds (ps := ["value"]) fun _ _ _ _ _ _ us hl => match us, hl with | [_], _ => by kernel_rfl
  have F_Bars_holds_ := fun_mk (st := st_Bars_holds) l_Bars_holds c_Bars_holds k_Bars_holds
  have b_Bars_holds := F_Bars_holds_.binds (ps := ["self", "text"]) fun _ _ _ _ _ _ us hl => match us, hl with | [_, _], _ => by kernel_rfl
  have F_Bars_last_of_ := fun_mk (st := st_Bars_last_of) l_Bars_last_of c_Bars_last_of k_Bars_last_of
  have b_Bars_last_of := F_Bars_last_of_.binds (ps := ["self", "text"]) fun _ _ _ _ _ _ us hl => match us, hl with | [_, _], _ => by kernel_rfl
  have F_Bars_end_of_ := fun_mk (st := st_Bars_end_of) l_Bars_end_of c_Bars_end_of k_Bars_end_of
  have b_Bars_end_of := F_Bars_end_of_.binds (ps := ["self", "text"]) fun _ _ _ _ _ _ us hl => match us, hl with | [_, _], _ => by kernel_rfl
  have F_Bars_behind_ := fun_mk (st := st_Bars_behind) l_Bars_behind c_Bars_behind k_Bars_behind
  have b_Bars_behind := F_Bars_behind_.binds (ps := ["self", "end", "text"]) fun _ _ _ _ _ _ us hl => match us, hl with | [_, _, _], _ => by kernel_rfl
  have F_Bars_contains_ := fun_mk (st := st_Bars_contains) l_Bars_contains c_Bars_contains k_Bars_contains
  have b_Bars_contains := F_Bars_contains_.binds (ps := ["self", "text"]) fun _ _ _ _ _ _ us hl => match us, hl with | [_, _], _ => by kernel_rfl
  have F_Bars_len_ := fun_mk (st := st_Bars_len) l_Bars_len c_Bars_len k_Bars_len
  have b_Bars_len := F_Bars_len_.binds (ps := ["self"]) fun _ _ _ _ _ _ us hl => match us, hl with | [_], _ => by kernel_rfl
  have F_Bars_iter_ := fun_mk (st := st_Bars_iter) l_Bars_iter c_Bars_iter k_Bars_iter
  have b_Bars_iter := F_Bars_iter_.binds (ps := ["self"]) fun _ _ _ _ _ _ us hl => match us, hl with | [_], _ => by kernel_rfl
  have F_Bars_eq_ := fun_mk (st := st_Bars_eq) l_Bars_eq c_Bars_eq k_Bars_eq
  have b_Bars_eq := F_Bars_eq_.binds (ps := ["self", "other"]) fun _ _ _ _ _ _ us hl => match us, hl with | [_, _], _ => by kernel_rfl
  have F_Bars_init_ := fun_mk (st := st_Bars_init) l_Bars_init c_Bars_init k_Bars_init
  have F_Bars_of_ := fun_mk (st := st_Bars_of) l_Bars_of c_Bars_of k_Bars_of
  have b_Bars_of := F_Bars_of_.binds (ps := ["signs", "words"]) fun _ _ _ _ _ _ us hl => match us, hl with | [_, _], _ => by kernel_rfl
  have F__law_least_words_ := fun_mk (st := st__law_least_words) l__law_least_words c__law_least_words k__law_least_words
  have b__law_least_words := F__law_least_words_.binds (ps := ["words"]) fun _ _ _ _ _ _ us hl => match us, hl with | [_], _ => by kernel_rfl
  have F__law_ends_ := fun_mk (st := st__law_ends) l__law_ends c__law_ends k__law_ends
  have b__law_ends := F__law_ends_.binds (ps := ["words"]) fun _ _ _ _ _ _ us hl => match us, hl with | [_], _ => by kernel_rfl
  have F__law_end_ := fun_mk (st := st__law_end) l__law_end c__law_end k__law_end
  have b__law_end := F__law_end_.binds (ps := ["words", "text"]) fun _ _ _ _ _ _ us hl => match us, hl with | [_, _], _ => by kernel_rfl
  have F__law_behind_ := fun_mk (st := st__law_behind) l__law_behind c__law_behind k__law_behind
  have b__law_behind := F__law_behind_.binds (ps := ["words", "end", "text"]) fun _ _ _ _ _ _ us hl => match us, hl with | [_, _, _], _ => by kernel_rfl
  have F__law_pick_ := fun_mk (st := st__law_pick) l__law_pick c__law_pick k__law_pick
  have b__law_pick := F__law_pick_.binds (ps := ["pen", "some"]) fun _ _ _ _ _ _ us hl => match us, hl with | [_, _], _ => by kernel_rfl
  have F__law_word_ := fun_mk (st := st__law_word) l__law_word c__law_word k__law_word
  have b__law_word := F__law_word_.binds (ps := ["pen", "signs", "least", "most"]) fun _ _ _ _ _ _ us hl => match us, hl with | [_, _, _, _], _ => by kernel_rfl
  have F__law_some_bars_ := fun_mk (st := st__law_some_bars) l__law_some_bars c__law_some_bars k__law_some_bars
  have b__law_some_bars := F__law_some_bars_.binds (ps := ["pen"]) fun _ _ _ _ _ _ us hl => match us, hl with | [_], _ => by kernel_rfl
  have F__law_asked_right_ := fun_mk (st := st__law_asked_right) l__law_asked_right c__law_asked_right k__law_asked_right
  have b__law_asked_right := F__law_asked_right_.binds (ps := ["pen", "bars", "signs", "words"]) fun _ _ _ _ _ _ us hl => match us, hl with | [_, _, _, _], _ => by kernel_rfl
  have F_law_ := fun_mk (st := st_law) l_law c_law k_law
  have b_law := F_law_.binds (ps := ["script"]) fun _ _ _ _ _ _ us hl => match us, hl with | [_], _ => by kernel_rfl
  refine ⟨PySem.W.fnOf "law" "law" (defArgs st_law) (defBody st_law) (defScope st_law) .none kV_law dc_law pm_law an_law cd_law ct_law, fun s v => .of_eq (by kernel_rfl), fun base _ _ => ?_⟩
  have ok__law_pen_ := ok__law_pen (P := l.prog) (w := w) (base := base) F__law_pen_ T  
  have ok__law_draw_ := ok__law_draw (P := l.prog) (w := w) (base := base) F__law_draw_ T  
  have ok__law_holds_ := ok__law_holds (P := l.prog) (w := w) (base := base) F__law_holds_ T  
  have ok_is_text_ := ok_is_text (P := l.prog) (w := w) (base := base) F_is_text_ T  
  have ok_least_words_ := ok_least_words (P := l.prog) (w := w) (base := base) F_least_words_ T  
  have ok_ends_of_ := ok_ends_of (P := l.prog) (w := w) (base := base) F_ends_of_ T  
  have ok_is_signs_ := ok_is_signs (P := l.prog) (w := w) (base := base) F_is_signs_ T  
  have c_is_signs_ : DL.Cal l.prog w K mg base 1 "is_signs" ["value"] F_is_signs := ⟨⟨_, _, ok_is_signs_, PySem.W.mg_of X G a_is_signs, k_is_signs, b_is_signs⟩⟩
  have ok_need_signs_ := ok_need_signs (P := l.prog) (w := w) (base := base) F_need_signs_ T  c_is_signs_
  have ok_Bars_holds_ := ok_Bars_holds (P := l.prog) (w := w) (base := base) F_Bars_holds_ T  
  have ok_Bars_last_of_ := ok_Bars_last_of (P := l.prog) (w := w) (base := base) F_Bars_last_of_ T  
  have c_is_text_ : DL.Cal l.prog w K mg base 1 "is_text" ["value", "signs"] F_is_text := ⟨⟨_, _, ok_is_text_, PySem.W.mg_of X G a_is_text, k_is_text, b_is_text⟩⟩
  have c_Bars_holds_ : DL.Met l.prog w K mg base 1 "Bars" "holds" ["self", "text"] F_Bars_holds := ⟨⟨_, _, _, hC_Bars, cl_Bars, ⟨a_Bars_holds, i_Bars_holds, k_Bars_holds⟩, ok_Bars_holds_, b_Bars_holds⟩⟩
  have c_Bars_last_of_ : DL.Met l.prog w K mg base 1 "Bars" "last_of" ["self", "text"] F_Bars_last_of := ⟨⟨_, _, _, hC_Bars, cl_Bars, ⟨a_Bars_last_of, i_Bars_last_of, k_Bars_last_of⟩, ok_Bars_last_of_, b_Bars_last_of⟩⟩
  have ok_Bars_end_of_ := ok_Bars_end_of (P := l.prog) (w := w) (base := base) F_Bars_end_of_ T  c_is_text_ c_Bars_holds_ c_Bars_last_of_
  have ok_Bars_behind_ := ok_Bars_behind (P := l.prog) (w := w) (base := base) F_Bars_behind_ T  c_is_text_ c_Bars_holds_ c_Bars_last_of_
  have ok_Bars_contains_ := ok_Bars_contains (P := l.prog) (w := w) (base := base) F_Bars_contains_ T  c_is_text_ c_Bars_holds_
  have ok_Bars_len_ := ok_Bars_len (P := l.prog) (w := w) (base := base) F_Bars_len_ T  
  have ok_Bars_iter_ := ok_Bars_iter (P := l.prog) (w := w) (base := base) F_Bars_iter_ T hC_Bars 
  have ok_Bars_eq_ := ok_Bars_eq (P := l.prog) (w := w) (base := base) F_Bars_eq_ T  
  have c_need_signs_ : DL.Cal l.prog w K mg base 2 "need_signs" ["value"] F_need_signs := ⟨⟨_, _, ok_need_signs_, PySem.W.mg_of X G a_need_signs, k_need_signs, b_need_signs⟩⟩
  have c_least_words_ : DL.Cal l.prog w K mg base 1 "least_words" ["words"] F_least_words := ⟨⟨_, _, ok_least_words_, PySem.W.mg_of X G a_least_words, k_least_words, b_least_words⟩⟩
  have c_ends_of_ : DL.Cal l.prog w K mg base 1 "ends_of" ["words"] F_ends_of := ⟨⟨_, _, ok_ends_of_, PySem.W.mg_of X G a_ends_of, k_ends_of, b_ends_of⟩⟩
  have ok_Bars_init_ := ok_Bars_init (P := l.prog) (w := w) (base := base) F_Bars_init_ T  c_need_signs_ c_is_text_ c_least_words_ c_ends_of_
  have c_Bars_init_ : DL.MakS l.prog w K mg base 3 "Bars" 1 F_Bars_init := ⟨⟨_, _, hC_Bars, ⟨mk_Bars, a_Bars_init, i_Bars_init, kc_Bars⟩, ok_Bars_init_⟩⟩
  have ok_Bars_of_ := ok_Bars_of (P := l.prog) (w := w) (base := base) F_Bars_of_ T  c_need_signs_ c_Bars_init_
  have ok__law_least_words_ := ok__law_least_words (P := l.prog) (w := w) (base := base) F__law_least_words_ T  
  have c__law_holds_ : DL.Cal l.prog w K mg base 1 "_law_holds" ["words", "text"] F__law_holds := ⟨⟨_, _, ok__law_holds_, PySem.W.mg_of X G a__law_holds, k__law_holds, b__law_holds⟩⟩
  have ok__law_ends_ := ok__law_ends (P := l.prog) (w := w) (base := base) F__law_ends_ T  c__law_holds_
  have c__law_ends_ : DL.Cal l.prog w K mg base 2 "_law_ends" ["words"] F__law_ends := ⟨⟨_, _, ok__law_ends_, PySem.W.mg_of X G a__law_ends, k__law_ends, b__law_ends⟩⟩
  have ok__law_end_ := ok__law_end (P := l.prog) (w := w) (base := base) F__law_end_ T  c__law_ends_
  have c__law_end_ : DL.Cal l.prog w K mg base 3 "_law_end" ["words", "text"] F__law_end := ⟨⟨_, _, ok__law_end_, PySem.W.mg_of X G a__law_end, k__law_end, b__law_end⟩⟩
  have ok__law_behind_ := ok__law_behind (P := l.prog) (w := w) (base := base) F__law_behind_ T  c__law_holds_ c__law_end_
  have c__law_draw_ : DL.Cal l.prog w K mg base 1 "_law_draw" ["pen", "many"] F__law_draw := ⟨⟨_, _, ok__law_draw_, PySem.W.mg_of X G a__law_draw, k__law_draw, b__law_draw⟩⟩
  have ok__law_pick_ := ok__law_pick (P := l.prog) (w := w) (base := base) F__law_pick_ T  c__law_draw_
  have c__law_pick_ : DL.Cal l.prog w K mg base 2 "_law_pick" ["pen", "some"] F__law_pick := ⟨⟨_, _, ok__law_pick_, PySem.W.mg_of X G a__law_pick, k__law_pick, b__law_pick⟩⟩
  have ok__law_word_ := ok__law_word (P := l.prog) (w := w) (base := base) F__law_word_ T  c__law_draw_ c__law_pick_
  have c__law_word_ : DL.Cal l.prog w K mg base 3 "_law_word" ["pen", "signs", "least", "most"] F__law_word := ⟨⟨_, _, ok__law_word_, PySem.W.mg_of X G a__law_word, k__law_word, b__law_word⟩⟩
  have ok__law_some_bars_ := ok__law_some_bars (P := l.prog) (w := w) (base := base) F__law_some_bars_ T  c__law_pick_ c__law_draw_ c__law_word_
  have c__law_least_words_ : DL.Cal l.prog w K mg base 1 "_law_least_words" ["words"] F__law_least_words := ⟨⟨_, _, ok__law_least_words_, PySem.W.mg_of X G a__law_least_words, k__law_least_words, b__law_least_words⟩⟩
  have d_Bars_contains_ : DL.Dun l.prog w K mg base 2 "Bars" "__contains__" ["self", "text"] F_Bars_contains := ⟨⟨_, _, _, hC_Bars, a_Bars_contains, i_Bars_contains, ok_Bars_contains_, b_Bars_contains⟩⟩
  have c_Bars_end_of_ : DL.Met l.prog w K mg base 2 "Bars" "end_of" ["self", "text"] F_Bars_end_of := ⟨⟨_, _, _, hC_Bars, cl_Bars, ⟨a_Bars_end_of, i_Bars_end_of, k_Bars_end_of⟩, ok_Bars_end_of_, b_Bars_end_of⟩⟩
  have k_Bars_end_of_text_ : DL.MetK l.prog w K mg base 2 "Bars" "end_of" ["self", "text"] ["text"] [0, 1] F_Bars_end_of := ⟨⟨_, _, _, hC_Bars, cl_Bars, ⟨a_Bars_end_of, i_Bars_end_of, k_Bars_end_of⟩, ok_Bars_end_of_, (fun s us ws h1 h2 => match us, ws, h1, h2 with | [_], [_], _, _ => .of_eq (by kernel_rfl))⟩⟩
  have c_Bars_behind_ : DL.Met l.prog w K mg base 2 "Bars" "behind" ["self", "end", "text"] F_Bars_behind := ⟨⟨_, _, _, hC_Bars, cl_Bars, ⟨a_Bars_behind, i_Bars_behind, k_Bars_behind⟩, ok_Bars_behind_, b_Bars_behind⟩⟩
  have c__law_behind_ : DL.Cal l.prog w K mg base 4 "_law_behind" ["words", "end", "text"] F__law_behind := ⟨⟨_, _, ok__law_behind_, PySem.W.mg_of X G a__law_behind, k__law_behind, b__law_behind⟩⟩
  have k_Bars_behind_text_end_ : DL.MetK l.prog w K mg base 2 "Bars" "behind" ["self", "end", "text"] ["text", "end"] [0, 2, 1] F_Bars_behind := ⟨⟨_, _, _, hC_Bars, cl_Bars, ⟨a_Bars_behind, i_Bars_behind, k_Bars_behind⟩, ok_Bars_behind_, (fun s us ws h1 h2 => match us, ws, h1, h2 with | [_], [_, _], _, _ => .of_eq (by kernel_rfl))⟩⟩
  have ok__law_asked_right_ := ok__law_asked_right (P := l.prog) (w := w) (base := base) F__law_asked_right_ T  c__law_word_ c__law_least_words_ d_Bars_contains_ c__law_holds_ c_Bars_end_of_ c__law_end_ k_Bars_end_of_text_ c__law_pick_ c_Bars_behind_ c__law_behind_ k_Bars_behind_text_end_
  have c__law_some_bars_ : DL.Cal l.prog w K mg base 4 "_law_some_bars" ["pen"] F__law_some_bars := ⟨⟨_, _, ok__law_some_bars_, PySem.W.mg_of X G a__law_some_bars, k__law_some_bars, b__law_some_bars⟩⟩
  have c_Bars_of_ : DL.SMet l.prog w K mg base 5 "Bars" "of" ["signs", "words"] F_Bars_of := ⟨⟨_, _, _, _, _, hC_Bars, ⟨rd_Bars_of, ga_Bars_of⟩, a_Bars_of, ⟨_, rc_Bars_of⟩, k_Bars_of, ok_Bars_of_, b_Bars_of⟩⟩
  have d_Bars_len_ : DL.Dun l.prog w K mg base 1 "Bars" "__len__" ["self"] F_Bars_len := ⟨⟨_, _, _, hC_Bars, a_Bars_len, i_Bars_len, ok_Bars_len_, b_Bars_len⟩⟩
  have d_Bars_iter_ : DL.DunIt l.prog w K mg base 1 "Bars" "words" := ⟨⟨_, _, _, hC_Bars, a_Bars_iter, i_Bars_iter, ok_Bars_iter_, b_Bars_iter⟩⟩
  have k_Bars_of_words_signs_ : DL.SMetK l.prog w K mg base 5 "Bars" "of" ["signs", "words"] ["words", "signs"] [1, 0] F_Bars_of := ⟨⟨_, _, _, _, _, hC_Bars, ⟨rd_Bars_of, ga_Bars_of⟩, a_Bars_of, ⟨_, rc_Bars_of⟩, k_Bars_of, ok_Bars_of_, (fun s us ws h1 h2 => match us, ws, h1, h2 with | [], [_, _], _, _ => .of_eq (by kernel_rfl))⟩⟩
  have d_Bars_eq_ : DL.DunEq l.prog w K mg base 1 "Bars" ["self", "other"] F_Bars_eq te_Bars := ⟨⟨_, _, _, hC_Bars, a_Bars_eq, i_Bars_eq, ok_Bars_eq_, b_Bars_eq, ne_Bars, so_Bars, te_Bars'⟩⟩
  have c__law_asked_right_ : DL.Cal l.prog w K mg base 5 "_law_asked_right" ["pen", "bars", "signs", "words"] F__law_asked_right := ⟨⟨_, _, ok__law_asked_right_, PySem.W.mg_of X G a__law_asked_right, k__law_asked_right, b__law_asked_right⟩⟩
  exact ok_law F_law_ T ok__law_pen_ (PySem.W.mg_of X G a__law_pen) k__law_pen b__law_pen c__law_some_bars_ c__law_least_words_ c__law_ends_ c_Bars_of_ d_Bars_len_ d_Bars_iter_ k_Bars_of_words_signs_ d_Bars_eq_ c_Bars_init_ d_Bars_contains_ c__law_asked_right_ c_Bars_behind_ hB
theorem walk {l : PySem.W.OpenLaw} {q : Program} {loose : List Str} {XP : (Str → Option Value) → Heap → Prop} {YP : World → Heap → Prop} {d : DefRec} {K : Params → PySem.W.Frag} (hn : l.most = some 63) (hdf : d.params.defaults = [])
    (hY : ∀ (w : World) (h : Heap), YP w h → (K w.params).In h)
    (F : ∀ (w : World) (mg : Str → Option Value) (fa : Addr) (h : Heap), (K w.params).In h → h.Ns mainGlobals mg → mg d.name = some (.ref fa) →
      ∃ fd : FuncData, (∀ (s : Shared) (u : Value), BindsTo s fd ⟨[u], []⟩ [("script", u)]) ∧ ∀ base : Heap, (K w.params).In base → base.Ns mainGlobals mg → FnG l.prog w (K w.params) mg base (L2.CX l.prog w) 6 fa fd ["script"] (spLaw (K w.params))) :
    PySem.W.WalkO q loose XP YP l.row.toRowW d [] (fun f vs => PySem.call f vs) :=
  L2.walk_ofG (n := 63) (k := 6) (x := "script") (CX := fun w => L2.CX l.prog w) (sp := fun w => spLaw (K w.params)) hn (by decide) hdf ⟨⟨rfl, by decide, by decide⟩, rfl⟩ hY F (fun _ _ a ns hl _ hS => ⟨a, ns, rfl, hS, hl, fun _ => rfl⟩) fun w H s e s' z => by
    obtain ⟨_, _, _, _, _, _, _, _, _, _, _, _, z⟩ := z
    exact z
end K00

set_option maxRecDepth 100000
open PySem PySem.W PyProof.Rows
set_option maxRecDepth 100000 in
set_option maxHeartbeats 0 in
theorem PySem.Challenge.cw_joinflags_k00_bars_made_and_asked_holds : PySem.Challenge.rw_joinflags_k00_bars_made_and_asked.Holds := by
  w_on; o_law; k_head; (case hw => w_witness2)
  k_fill
  refine K00.walk (l := PySem.Challenge.rw_joinflags_k00_bars_made_and_asked) rfl rfl (fun w h Y => PySem.W.kIn_of Y) ?F
  case F =>
    intro w mg fa h KX G hmg
    refine' K00.all_mk K00.law_true KX G hmg ?a_Bars ?a__law_pen ?l__law_pen ?c__law_pen ?k__law_pen ?a__law_draw ?l__law_draw ?c__law_draw ?k__law_draw ?a__law_holds ?l__law_holds ?c__law_holds ?k__law_holds ?a_is_text ?l_is_text ?c_is_text ?k_is_text ?a_least_words ?l_least_words ?c_least_words ?k_least_words ?a_ends_of ?l_ends_of ?c_ends_of ?k_ends_of ?a_is_signs ?l_is_signs ?c_is_signs ?k_is_signs ?a_need_signs ?l_need_signs ?c_need_signs ?k_need_signs ?a_Bars_holds ?i_Bars_holds ?l_Bars_holds ?c_Bars_holds ?k_Bars_holds ?a_Bars_last_of ?i_Bars_last_of ?l_Bars_last_of ?c_Bars_last_of ?k_Bars_last_of ?a_Bars_end_of ?i_Bars_end_of ?l_Bars_end_of ?c_Bars_end_of ?k_Bars_end_of ?a_Bars_behind ?i_Bars_behind ?l_Bars_behind ?c_Bars_behind ?k_Bars_behind ?a_Bars_contains ?i_Bars_contains ?l_Bars_contains ?c_Bars_contains ?k_Bars_contains ?a_Bars_len ?i_Bars_len ?l_Bars_len ?c_Bars_len ?k_Bars_len ?a_Bars_iter ?i_Bars_iter ?l_Bars_iter ?c_Bars_iter ?k_Bars_iter ?a_Bars_eq ?i_Bars_eq ?l_Bars_eq ?c_Bars_eq ?k_Bars_eq ?a_Bars_init ?i_Bars_init ?l_Bars_init ?c_Bars_init ?k_Bars_init ?rd_Bars_of ?ga_Bars_of ?a_Bars_of ?rc_Bars_of ?l_Bars_of ?c_Bars_of ?k_Bars_of ?a__law_least_words ?l__law_least_words ?c__law_least_words ?k__law_least_words ?a__law_ends ?l__law_ends ?c__law_ends ?k__law_ends ?a__law_end ?l__law_end ?c__law_end ?k__law_end ?a__law_behind ?l__law_behind ?c__law_behind ?k__law_behind ?a__law_pick ?l__law_pick ?c__law_pick ?k__law_pick ?a__law_word ?l__law_word ?c__law_word ?k__law_word ?a__law_some_bars ?l__law_some_bars ?c__law_some_bars ?k__law_some_bars ?a__law_asked_right ?l__law_asked_right ?c__law_asked_right ?k__law_asked_right ?a_law ?l_law ?c_law ?k_law ?pg_Bars ?hd_Bars ?po_Bars ?sa_Bars ?mk_Bars ?kc_Bars ?ha_Bars ?hn_Bars ?ht_Bars ?hm_Bars ?n_Bars_ends ?n_Bars_signs ?n_Bars_words ?sb_NoneType_Bars ?sb_bool_Bars ?sb_int_Bars ?sb_str_Bars ?sb_tuple_Bars ?sb_list_Bars ?sb_dict_Bars ?ic_Bars ?ty0_Bars ?st_Bars_list ?st_Bars_str ?st_Bars_tuple ?ne_Bars ?so_Bars ?z_abs ?z_all ?z_any ?z_int ?z_isinstance ?z_iter ?z_len ?z_list ?z_range ?z_repr ?z_sorted ?z_str ?z_tuple ?v_MOST_ENDS ?v_MOST_LETTERS ?v_MOST_SIGNS ?v_MOST_WORDS ?v_SIGNS
    (case a_Bars => k_is)
    (case a__law_pen => k_is)
    (case l__law_pen => k_is)
    (case c__law_pen => k_is)
    (case k__law_pen => k_is)
    (case a__law_draw => k_is)
    (case l__law_draw => k_is)
    (case c__law_draw => k_is)
    (case k__law_draw => k_is)
    (case a__law_holds => k_is)
    (case l__law_holds => k_is)
    (case c__law_holds => k_is)
    (case k__law_holds => k_is)
    (case a_is_text => k_is)
    (case l_is_text => k_is)
    (case c_is_text => k_is)
    (case k_is_text => k_is)
    (case a_least_words => k_is)
    (case l_least_words => k_is)
    (case c_least_words => k_is)
    (case k_least_words => k_is)
    (case a_ends_of => k_is)
    (case l_ends_of => k_is)
    (case c_ends_of => k_is)
    (case k_ends_of => k_is)
    (case a_is_signs => k_is)
    (case l_is_signs => k_is)
    (case c_is_signs => k_is)
    (case k_is_signs => k_is)
    (case a_need_signs => k_is)
    (case l_need_signs => k_is)
    (case c_need_signs => k_is)
    (case k_need_signs => k_is)
    (case a_Bars_holds => k_is)
    (case i_Bars_holds => k_is)
    (case l_Bars_holds => k_is)
    (case c_Bars_holds => k_is)
    (case k_Bars_holds => k_is)
    (case a_Bars_last_of => k_is)
    (case i_Bars_last_of => k_is)
    (case l_Bars_last_of => k_is)
    (case c_Bars_last_of => k_is)
    (case k_Bars_last_of => k_is)
    (case a_Bars_end_of => k_is)
    (case i_Bars_end_of => k_is)
    (case l_Bars_end_of => k_is)
    (case c_Bars_end_of => k_is)
    (case k_Bars_end_of => k_is)
    (case a_Bars_behind => k_is)
    (case i_Bars_behind => k_is)
    (case l_Bars_behind => k_is)
    (case c_Bars_behind => k_is)
    (case k_Bars_behind => k_is)
    (case a_Bars_contains => k_is)
    (case i_Bars_contains => k_is)
    (case l_Bars_contains => k_is)
    (case c_Bars_contains => k_is)
    (case k_Bars_contains => k_is)
    (case a_Bars_len => k_is)
    (case i_Bars_len => k_is)
    (case l_Bars_len => k_is)
    (case c_Bars_len => k_is)
    (case k_Bars_len => k_is)
    (case a_Bars_iter => k_is)
    (case i_Bars_iter => k_is)
    (case l_Bars_iter => k_is)
    (case c_Bars_iter => k_is)
    (case k_Bars_iter => k_is)
    (case a_Bars_eq => k_is)
    (case i_Bars_eq => k_is)
    (case l_Bars_eq => k_is)
    (case c_Bars_eq => k_is)
    (case k_Bars_eq => k_is)
    (case a_Bars_init => k_is)
    (case i_Bars_init => k_is)
    (case l_Bars_init => k_is)
    (case c_Bars_init => k_is)
    (case k_Bars_init => k_is)
    (case rd_Bars_of => k_is)
    (case ga_Bars_of => k_is)
    (case a_Bars_of => k_is)
    (case rc_Bars_of => k_is)
    (case l_Bars_of => k_is)
    (case c_Bars_of => k_is)
    (case k_Bars_of => k_is)
    (case a__law_least_words => k_is)
    (case l__law_least_words => k_is)
    (case c__law_least_words => k_is)
    (case k__law_least_words => k_is)
    (case a__law_ends => k_is)
    (case l__law_ends => k_is)
    (case c__law_ends => k_is)
    (case k__law_ends => k_is)
    (case a__law_end => k_is)
    (case l__law_end => k_is)
    (case c__law_end => k_is)
    (case k__law_end => k_is)
    (case a__law_behind => k_is)
    (case l__law_behind => k_is)
    (case c__law_behind => k_is)
    (case k__law_behind => k_is)
    (case a__law_pick => k_is)
    (case l__law_pick => k_is)
    (case c__law_pick => k_is)
    (case k__law_pick => k_is)
    (case a__law_word => k_is)
    (case l__law_word => k_is)
    (case c__law_word => k_is)
    (case k__law_word => k_is)
    (case a__law_some_bars => k_is)
    (case l__law_some_bars => k_is)
    (case c__law_some_bars => k_is)
    (case k__law_some_bars => k_is)
    (case a__law_asked_right => k_is)
    (case l__law_asked_right => k_is)
    (case c__law_asked_right => k_is)
    (case k__law_asked_right => k_is)
    (case a_law => k_is)
    (case l_law => k_is)
    (case c_law => k_is)
    (case k_law => k_is)
    (case pg_Bars => k_is)
    (case hd_Bars => k_is)
    (case po_Bars => k_is)
    (case sa_Bars => k_is)
    (case mk_Bars => k_is)
    (case kc_Bars => k_is)
    (case ha_Bars => k_is)
    (case hn_Bars => k_is)
    (case ht_Bars => k_is)
    (case hm_Bars => k_is)
    (case n_Bars_ends => k_is)
    (case n_Bars_signs => k_is)
    (case n_Bars_words => k_is)
    (case sb_NoneType_Bars => k_is)
    (case sb_bool_Bars => k_is)
    (case sb_int_Bars => k_is)
    (case sb_str_Bars => k_is)
    (case sb_tuple_Bars => k_is)
    (case sb_list_Bars => k_is)
    (case sb_dict_Bars => k_is)
    (case ic_Bars => k_is)
    (case ty0_Bars => k_is)
    (case st_Bars_list => k_is)
    (case st_Bars_str => k_is)
    (case st_Bars_tuple => k_is)
    (case ne_Bars => k_is)
    (case so_Bars => k_is)
    (case z_abs => k_is)
    (case z_all => k_is)
    (case z_any => k_is)
    (case z_int => k_is)
    (case z_isinstance => k_is)
    (case z_iter => k_is)
    (case z_len => k_is)
    (case z_list => k_is)
    (case z_range => k_is)
    (case z_repr => k_is)
    (case z_sorted => k_is)
    (case z_str => k_is)
    (case z_tuple => k_is)
    (case v_MOST_ENDS => k_is)
    (case v_MOST_LETTERS => k_is)
    (case v_MOST_SIGNS => k_is)
    (case v_MOST_WORDS => k_is)
    (case v_SIGNS => k_is)
