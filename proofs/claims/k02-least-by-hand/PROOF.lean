import PyProof.Rows.All
import Wide.All
import OpenK.AllK
import Wide.FinOn
import HandS.ForMost
import HandS.Walk
import HandS.Style
import HandS.Wide
import HandS.SetFor
import HandS.Strs
import HandS.Conv
import HandS.IsInst
import HandS.Small
import KE.KDictZip
import HandS.ListItems
import HandS.Zip
import PySem.Challenge.RW_fewtakings_k02_least_by_hand
set_option Elab.async false
set_option maxRecDepth 100000
set_option linter.all false
/-! PU1: data, what stands for it in the heap, states, judgements. -/
namespace PU
open PySem L2

/-- plain data -/
inductive D where
  | non | bl (b : Bool) | int (i : Int) | str (x : Str)
  | lst (ds : List D) | tup (ds : List D)
  | scr (ns : List Int)
  | ins (c : Nat) (fs : List (Str × D))

structure Pm where
  K : PySem.W.Frag
  cl : Nat → Addr

mutual
def Rp (p : Pm) (G : Hp) : D → V → Prop
  | .non, v => v = .non
  | .bl b, v => v = .bl b
  | .int i, v => v = .int i
  | .str x, v => v = .str x
  | .lst ds, v => ∃ a xs, v = .ref a ∧ G a = some (.lst xs) ∧ RpA p G ds xs
  | .tup ds, v => ∃ a xs, v = .ref a ∧ G a = some (.tup xs) ∧ RpA p G ds xs
  | .scr ns, v => ∃ a, v = .ref a ∧ SqL p.K G a (ns.map V.int)
  | .ins c fs, v => ∃ a dx xs, v = .ref a ∧ G a = some (.ins (p.cl c) dx xs) ∧ RpF p G fs xs
def RpA (p : Pm) (G : Hp) : List D → List V → Prop
  | [], xs => xs = []
  | d :: ds, xs => ∃ v vs, xs = v :: vs ∧ Rp p G d v ∧ RpA p G ds vs
def RpF (p : Pm) (G : Hp) : List (Str × D) → List (Str × V) → Prop
  | [], xs => xs = []
  | (f, d) :: ds, xs => ∃ v vs, xs = (f, v) :: vs ∧ Rp p G d v ∧ RpF p G ds vs
end

mutual
theorem Rp.mono {p : Pm} {G G' : Hp} (e : Same G G') : ∀ (d : D) {v : V}, Rp p G d v → Rp p G' d v
  | .non, _, h => h
  | .bl _, _, h => h
  | .int _, _, h => h
  | .str _, _, h => h
  | .lst ds, _, h => by
    obtain ⟨a, xs, h1, h2, h3⟩ := h
    exact ⟨a, xs, h1, e _ _ h2, RpA.mono e ds h3⟩
  | .tup ds, _, h => by
    obtain ⟨a, xs, h1, h2, h3⟩ := h
    exact ⟨a, xs, h1, e _ _ h2, RpA.mono e ds h3⟩
  | .scr ns, _, h => by
    obtain ⟨a, h1, h2⟩ := h
    exact ⟨a, h1, e.seq h2⟩
  | .ins c fs, _, h => by
    obtain ⟨a, dx, xs, h1, h2, h3⟩ := h
    exact ⟨a, dx, xs, h1, e _ _ h2, RpF.mono e fs h3⟩
theorem RpA.mono {p : Pm} {G G' : Hp} (e : Same G G') : ∀ (ds : List D) {vs : List V}, RpA p G ds vs → RpA p G' ds vs
  | [], _, h => h
  | d :: ds, _, h => by
    obtain ⟨v, vs, h1, h2, h3⟩ := h
    exact ⟨v, vs, h1, Rp.mono e d h2, RpA.mono e ds h3⟩
theorem RpF.mono {p : Pm} {G G' : Hp} (e : Same G G') : ∀ (ds : List (Str × D)) {vs : List (Str × V)}, RpF p G ds vs → RpF p G' ds vs
  | [], _, h => h
  | (f, d) :: ds, _, h => by
    obtain ⟨v, vs, h1, h2, h3⟩ := h
    exact ⟨v, vs, h1, Rp.mono e d h2, RpF.mono e ds h3⟩
end

section
variable {p : Pm} {G : Hp}
theorem RpA.nil : RpA p G [] [] := rfl
theorem RpA.cons {d : D} {ds : List D} {v : V} {vs : List V} (h : Rp p G d v) (t : RpA p G ds vs) : RpA p G (d :: ds) (v :: vs) := ⟨v, vs, rfl, h, t⟩
theorem RpA.length : ∀ {ds : List D} {vs : List V}, RpA p G ds vs → ds.length = vs.length
  | [], vs, h => by
    have e : vs = [] := h
    rw [e]
    rfl
  | d :: ds, _, h => by
    obtain ⟨v, vs, rfl, _, h3⟩ := h
    simp [RpA.length h3]
theorem RpA.get : ∀ {ds : List D} {vs : List V} {i : Nat} {d : D}, RpA p G ds vs → ds[i]? = some d → ∃ v, vs[i]? = some v ∧ Rp p G d v
  | [], _, _, _, _, e => by simp at e
  | d :: ds, _, 0, _, h, e => by
    obtain ⟨v, vs, rfl, h2, _⟩ := h
    simp at e; subst e
    exact ⟨v, rfl, h2⟩
  | d :: ds, _, i + 1, _, h, e => by
    obtain ⟨v, vs, rfl, _, h3⟩ := h
    obtain ⟨w, h4, h5⟩ := RpA.get (i := i) h3 (by simpa using e)
    exact ⟨w, by simpa using h4, h5⟩
theorem RpA.get' : ∀ {ds : List D} {vs : List V} {i : Nat} {v : V}, RpA p G ds vs → vs[i]? = some v → ∃ d, ds[i]? = some d ∧ Rp p G d v := by
  intro ds vs i v h e
  have hl := h.length
  have hi : i < ds.length := by rw [hl]; exact (List.getElem?_eq_some_iff.mp e).1
  obtain ⟨w, h1, h2⟩ := h.get (i := i) (d := ds[i]) (by simp [hi])
  rw [e] at h1; cases h1
  exact ⟨ds[i], by simp [hi], h2⟩
theorem RpA.append : ∀ {ds es : List D} {vs ws : List V}, RpA p G ds vs → RpA p G es ws → RpA p G (ds ++ es) (vs ++ ws)
  | [], _, _, _, h, k => by rw [show _ = [] from h]; exact k
  | d :: ds, _, _, _, h, k => by
    obtain ⟨v, vs, rfl, h2, h3⟩ := h
    exact ⟨v, vs ++ _, rfl, h2, RpA.append h3 k⟩
theorem RpA.take : ∀ {ds : List D} {vs : List V} (n : Nat), RpA p G ds vs → RpA p G (ds.take n) (vs.take n)
  | _, _, 0, _ => by simp; exact rfl
  | [], _, n + 1, h => by rw [show _ = [] from h]; exact rfl
  | d :: ds, _, n + 1, h => by
    obtain ⟨v, vs, rfl, h2, h3⟩ := h
    exact ⟨v, vs.take n, rfl, h2, RpA.take n h3⟩
theorem RpA.drop : ∀ {ds : List D} {vs : List V} (n : Nat), RpA p G ds vs → RpA p G (ds.drop n) (vs.drop n)
  | _, _, 0, h => h
  | [], _, n + 1, h => by rw [show _ = [] from h]; exact rfl
  | d :: ds, _, n + 1, h => by
    obtain ⟨v, vs, rfl, h2, h3⟩ := h
    exact RpA.drop n h3
theorem RpA.reverse : ∀ {ds : List D} {vs : List V}, RpA p G ds vs → RpA p G ds.reverse vs.reverse
  | [], _, h => by rw [show _ = [] from h]; exact rfl
  | d :: ds, _, h => by
    obtain ⟨v, vs, rfl, h2, h3⟩ := h
    rw [List.reverse_cons, List.reverse_cons]
    exact RpA.append (RpA.reverse h3) (.cons h2 .nil)
theorem RpA.set : ∀ {ds : List D} {vs : List V} {d : D} {v : V} (i : Nat), RpA p G ds vs → Rp p G d v → RpA p G (ds.set i d) (vs.set i v)
  | [], _, _, _, _, h, _ => by rw [show _ = [] from h]; exact rfl
  | d :: ds, _, _, _, 0, h, k => by
    obtain ⟨v, vs, rfl, h2, h3⟩ := h
    exact ⟨_, vs, rfl, k, h3⟩
  | d :: ds, _, _, _, i + 1, h, k => by
    obtain ⟨v, vs, rfl, h2, h3⟩ := h
    exact ⟨v, _, rfl, h2, RpA.set i h3 k⟩
theorem RpA.erase : ∀ {ds : List D} {vs : List V} (i : Nat), RpA p G ds vs → RpA p G (ds.eraseIdx i) (vs.eraseIdx i)
  | [], _, _, h => by rw [show _ = [] from h]; exact rfl
  | d :: ds, _, 0, h => by
    obtain ⟨v, vs, rfl, h2, h3⟩ := h
    exact h3
  | d :: ds, _, i + 1, h => by
    obtain ⟨v, vs, rfl, h2, h3⟩ := h
    exact ⟨v, _, rfl, h2, RpA.erase i h3⟩
theorem RpA.ints : ∀ {ns : List Int} {vs : List V}, RpA p G (ns.map D.int) vs → vs = ns.map V.int
  | [], _, h => h
  | n :: ns, _, h => by
    obtain ⟨v, vs, rfl, h2, h3⟩ := h
    rw [RpA.ints h3, show v = V.int n from h2]; rfl
theorem RpA.of_ints : ∀ {ns : List Int}, RpA p G (ns.map D.int) (ns.map V.int)
  | [] => rfl
  | n :: ns => ⟨_, _, rfl, rfl, RpA.of_ints⟩
theorem RpA.bls : ∀ {ns : List Bool} {vs : List V}, RpA p G (ns.map D.bl) vs → vs = ns.map V.bl
  | [], _, h => h
  | n :: ns, _, h => by
    obtain ⟨v, vs, rfl, h2, h3⟩ := h
    rw [RpA.bls h3, show v = V.bl n from h2]; rfl
end

/-! ### Lean types as data -/
class Enc (α : Type) where
  enc : α → D
open Enc
instance : Enc Int := ⟨.int⟩
instance : Enc Bool := ⟨.bl⟩
instance : Enc Unit := ⟨fun _ => .non⟩
instance : Enc D := ⟨id⟩
instance {α : Type} [Enc α] : Enc (List α) := ⟨fun xs => .lst (xs.map enc)⟩
instance {α β : Type} [Enc α] [Enc β] : Enc (α × β) := ⟨fun x => .tup [enc x.1, enc x.2]⟩
instance {α : Type} [Enc α] : Enc (Option α) := ⟨fun x => match x with | none => .non | some a => enc a⟩
structure Scr where
  ns : List Int
instance : Enc Scr := ⟨fun x => .scr x.ns⟩

/-! ### heaps -/
structure Gr (G G' H H' : Hp) : Prop where
  g : Same G G'
  s : Same G' H'
  h : Same H H'
  n : ∀ a o, G' a = some o → G a = none → H a = none
theorem Gr.refl {G H : Hp} (s : Same G H) : Gr G G H H := ⟨.refl _, s, .refl _, fun a o h k => by rw [h] at k; cases k⟩
theorem Gr.trans {G G1 G2 H H1 H2 : Hp} (a : Gr G G1 H H1) (b : Gr G1 G2 H1 H2) : Gr G G2 H H2 := ⟨a.g.trans b.g, b.s, a.h.trans b.h, fun x o h k => by
  cases e : G1 x with
  | none => exact a.h.free (b.n x o h e)
  | some o' => exact a.n x o' e k⟩
theorem same_new {H : Hp} {q : Addr} {o : HO} (h : H q = none) : Same H (upd H q o) := fun b u e => by
  rw [upd_ne (ne_of_none e h)]; exact e
theorem upd_mono {G H : Hp} {q : Addr} {o : HO} (s : Same G H) : Same (upd G q o) (upd H q o) := fun b u e => by
  by_cases hb : b = q
  · subst hb; rw [upd_same] at e ⊢; exact e
  · rw [upd_ne hb] at e ⊢; exact s _ _ e
/-- a new object, known -/
theorem Gr.new {G H : Hp} {q : Addr} {o : HO} (s : Same G H) (h : H q = none) : Gr G (upd G q o) H (upd H q o) :=
  ⟨same_new (s.free h), upd_mono s, same_new h, fun a u e k => by
    by_cases ha : a = q
    · subst ha; exact h
    · rw [upd_ne ha, k] at e; cases e⟩
/-- a new object, not known -/
theorem Gr.own {G H : Hp} {q : Addr} {o : HO} (s : Same G H) (h : H q = none) : Gr G G H (upd H q o) :=
  ⟨.refl _, s.trans (same_new h), same_new h, fun a u e k => by rw [k] at e; cases e⟩
/-- what stands in H' is taken up -/
theorem Gr.take {G G' H H' : Hp} {q : Addr} {o : HO} (g : Gr G G' H H') (h : H q = none) (h' : H' q = some o) (k : G' q = none) : Gr G (upd G' q o) H H' :=
  ⟨g.g.trans (same_new k), fun a u e => by
    by_cases ha : a = q
    · subst ha; rw [upd_same] at e; cases e; exact h'
    · rw [upd_ne ha] at e; exact g.s _ _ e, g.h, fun a u e k' => by
    by_cases ha : a = q
    · subst ha; exact h
    · rw [upd_ne ha] at e; exact g.n a u e k'⟩

/-! ### slots -/
/-- a thing of one's own, that may change: R G v F: v with the part F of the heap -/
structure Rs where
  R : Pm → Hp → V → Hp → Prop
  mono : ∀ {p G G' v F}, Same G G' → R p G v F → R p G' v F
inductive Sl where
  | fr
  | va (d : D)
  | rs (r : Rs)
def nil : Hp := fun _ => none
def sing (a : Addr) (o : HO) : Hp := upd nil a o
theorem sing_iff {a b : Addr} {o u : HO} : sing a o b = some u ↔ b = a ∧ o = u := by
  unfold sing
  by_cases h : b = a
  · subst h; rw [upd_same]; simp
  · rw [upd_ne h]; simp [nil, h]
/-- a list of one's own -/
def own (ds : List D) : Rs where
  R := fun p G v F => ∃ l vs, v = .ref l ∧ F = sing l (.lst vs) ∧ RpA p G ds vs
  mono := fun e h => by
    obtain ⟨l, vs, h1, h2, h3⟩ := h
    exact ⟨l, vs, h1, h2, RpA.mono e _ h3⟩
abbrev Sl.ow (ds : List D) : Sl := .rs (own ds)

/-- the things of one's own stand apart -/
structure RsOk (p : Pm) (H0 : Hp) (env : List Sl) (σ : St) (G H : Hp) (Fs : Nat → Hp) : Prop where
  wh : ∀ (i : Nat) r, env[i]? = some (.rs r) → ∃ v, σ[i]? = some (some v) ∧ r.R p G v (Fs i) ∧ Same (Fs i) H ∧ ∀ a o, Fs i a = some o → G a = none ∧ H0 a = none
  ap : ∀ (i j : Nat) r r' a o, i ≠ j → env[i]? = some (.rs r) → env[j]? = some (.rs r') → Fs i a = some o → Fs j a = none
structure Sts (p : Pm) (G0 H0 : Hp) (env : List Sl) (σ : St) (G H : Hp) : Prop where
  gr : Gr G0 G H0 H
  len : σ.length = env.length
  va : ∀ (i : Nat) d, env[i]? = some (.va d) → ∃ v, σ[i]? = some (some v) ∧ Rp p G d v
  rs : ∃ Fs : Nat → Hp, RsOk p H0 env σ G H Fs

theorem set_get {α : Type} {l : List α} {i j : Nat} {x y : α} (h : (l.set i x)[j]? = some y) : (i = j ∧ y = x ∧ i < l.length) ∨ (i ≠ j ∧ l[j]? = some y) := by
  by_cases hj : i = j
  · subst hj
    have hi : i < l.length := by
      have := (List.getElem?_eq_some_iff.mp h).1
      simpa using this
    rw [List.getElem?_set_self hi] at h
    cases h
    exact .inl ⟨rfl, rfl, hi⟩
  · rw [List.getElem?_set_ne hj] at h
    exact .inr ⟨hj, h⟩

section
variable {p : Pm} {G0 H0 G H G' H' : Hp} {env env' : List Sl} {σ σ' : St} {Fs : Nat → Hp}
theorem RsOk.step (s : RsOk p H0 env σ G H Fs) (g : Gr G G' H H') : RsOk p H0 env σ G' H' Fs := by
  refine ⟨fun i r e => ?_, s.ap⟩
  obtain ⟨v, a1, a2, a3, a4⟩ := s.wh i r e
  refine ⟨v, a1, r.mono g.g a2, a3.trans g.h, fun a o h => ⟨?_, (a4 a o h).2⟩⟩
  cases q : G' a with
  | none => rfl
  | some u =>
    have := g.n a u q (a4 a o h).1
    rw [a3 a o h] at this; cases this
theorem RsOk.set_va {i : Nat} {d : D} {v : V} (s : RsOk p H0 env σ G H Fs) : RsOk p H0 (env.set i (.va d)) (σ.set i (some v)) G H Fs := by
  refine ⟨fun j r e => ?_, fun j k r r' a o n e e' => ?_⟩
  · rcases set_get e with ⟨_, q, _⟩ | ⟨hj, e⟩
    · cases q
    · rw [List.getElem?_set_ne hj]
      exact s.wh j r e
  · rcases set_get e with ⟨_, q, _⟩ | ⟨_, e⟩
    · cases q
    · rcases set_get e' with ⟨_, q, _⟩ | ⟨_, e'⟩
      · cases q
      · exact s.ap j k r r' a o n e e'
theorem RsOk.set_rs {i : Nat} {r : Rs} {v : V} {F : Hp} (s : RsOk p H0 env σ G H Fs) (hl : σ.length = env.length) (h : r.R p G v F) (hF : Same F H) (hg : ∀ a o, F a = some o → G a = none ∧ H0 a = none)
    (hd : ∀ j r' a o, i ≠ j → env[j]? = some (.rs r') → F a = some o → Fs j a = none) : RsOk p H0 (env.set i (.rs r)) (σ.set i (some v)) G H (fun j => if i = j then F else Fs j) := by
  refine ⟨fun j r' e => ?_, fun j k r1 r2 a o n e e' q => ?_⟩
  · rcases set_get e with ⟨rfl, q, hi⟩ | ⟨hj, e⟩
    · cases q
      refine ⟨v, by rw [List.getElem?_set_self (by rw [hl]; exact hi)], ?_⟩
      simp only [if_true]
      exact ⟨h, hF, hg⟩
    · rw [List.getElem?_set_ne hj]
      simp only [if_neg hj]
      exact s.wh j r' e
  · rcases set_get e with ⟨rfl, _, _⟩ | ⟨hj, e⟩
    · simp only [if_true] at q
      simp only [if_neg n]
      rcases set_get e' with ⟨z, _, _⟩ | ⟨hk, e'⟩
      · exact absurd z n
      · exact hd k r2 a o hk e' q
    · simp only [if_neg hj] at q
      rcases set_get e' with ⟨rfl, _, _⟩ | ⟨hk, e'⟩
      · simp only [if_true]
        cases z : F a with
        | none => rfl
        | some u =>
          have := hd j r1 a u hj e z
          rw [q] at this; cases this
      · simp only [if_neg hk]
        exact s.ap j k r1 r2 a o n e e' q
/-- the thing in slot i is written: F becomes F' -/
structure Wr (H F F' H' : Hp) : Prop where
  on : Same F' H'
  off : ∀ a, F a = none → F' a = none → H' a = H a
  new : ∀ a o, F' a = some o → F a = none → H a = none
theorem Wr.keep {H F F' H' X : Hp} (w : Wr H F F' H') (s : Same X H) (d : ∀ a o, X a = some o → F a = none) : Same X H' := fun a o e => by
  have h1 := d a o e
  cases q : F' a with
  | none => rw [w.off a h1 q]; exact s a o e
  | some u =>
    have := w.new a u q h1
    rw [s a o e] at this; cases this
theorem RsOk.write {i : Nat} {r r' : Rs} {v : V} {F' : Hp} (s : RsOk p H0 env σ G H Fs) (hl : σ.length = env.length) (sg : Same G H) (sh : Same H0 H) (e : env[i]? = some (.rs r)) (w : Wr H (Fs i) F' H') (h : r'.R p G v F') :
    RsOk p H0 (env.set i (.rs r')) (σ.set i (some v)) G H' (fun j => if i = j then F' else Fs j) := by
  obtain ⟨v0, a1, a2, a3, a4⟩ := s.wh i r e
  have free : ∀ {X : Hp}, Same X H → (∀ a o, Fs i a = some o → X a = none) → ∀ a o, F' a = some o → X a = none := fun {X} sx dx a o q => by
    cases z : Fs i a with
    | some u => exact dx a u z
    | none => exact sx.free (w.new a o q z)
  refine ⟨fun j r1 e1 => ?_, fun j k r1 r2 a o n e1 e2 q => ?_⟩
  · rcases set_get e1 with ⟨rfl, q, hi⟩ | ⟨hj, e1⟩
    · cases q
      refine ⟨v, by rw [List.getElem?_set_self (by rw [hl]; exact hi)], ?_⟩
      simp only [if_true]
      exact ⟨h, w.on, fun a o q => ⟨free sg (fun b u z => (a4 b u z).1) a o q, free sh (fun b u z => (a4 b u z).2) a o q⟩⟩
    · rw [List.getElem?_set_ne hj]
      simp only [if_neg hj]
      obtain ⟨v1, b1, b2, b3, b4⟩ := s.wh j r1 e1
      exact ⟨v1, b1, b2, w.keep b3 fun a o q => s.ap j i r1 r a o (Ne.symm hj) e1 e q, b4⟩
  · rcases set_get e1 with ⟨rfl, _, _⟩ | ⟨hj, e1⟩
    · simp only [if_true] at q
      simp only [if_neg n]
      rcases set_get e2 with ⟨z, _, _⟩ | ⟨hk, e2⟩
      · exact absurd z n
      · obtain ⟨_, _, _, b3, _⟩ := s.wh k r2 e2
        exact free b3 (fun b u z => s.ap i k r r2 b u hk e e2 z) a o q
    · simp only [if_neg hj] at q
      rcases set_get e2 with ⟨rfl, _, _⟩ | ⟨hk, e2⟩
      · simp only [if_true]
        obtain ⟨_, _, _, b3, _⟩ := s.wh j r1 e1
        cases z : F' a with
        | none => rfl
        | some u =>
          have := free b3 (fun b u z => s.ap i j r r1 b u hj e e1 z) a u z
          rw [q] at this; cases this
      · simp only [if_neg hk]
        exact s.ap j k r1 r2 a o n e1 e2 q
theorem Sts.step (s : Sts p G0 H0 env σ G H) (g : Gr G G' H H') : Sts p G0 H0 env σ G' H' := by
  obtain ⟨Fs, f⟩ := s.rs
  exact ⟨s.gr.trans g, s.len, fun i d e => (s.va i d e).imp fun v h => ⟨h.1, Rp.mono g.g _ h.2⟩, Fs, f.step g⟩
/-- more is forgotten -/
def leE : List Sl → List Sl → Prop
  | [], [] => True
  | x :: xs, y :: ys => (y = .fr ∨ x = y) ∧ leE xs ys
  | _, _ => False
theorem leE.get : ∀ {env env' : List Sl}, leE env env' → ∀ {i : Nat} {x : Sl}, env'[i]? = some x → x ≠ .fr → env[i]? = some x
  | [], [], _, _, _, e, _ => by simp at e
  | x :: xs, y :: ys, h, 0, z, e, n => by
    simp at e; subst e
    rcases h.1 with q | q
    · exact absurd q n
    · simp [q]
  | x :: xs, y :: ys, h, i + 1, z, e, n => by
    simp at e ⊢
    exact leE.get h.2 e n
theorem leE.length : ∀ {env env' : List Sl}, leE env env' → env.length = env'.length
  | [], [], _ => rfl
  | x :: xs, y :: ys, h => by simp [leE.length h.2]
theorem leE.refl : ∀ {env : List Sl}, leE env env
  | [] => trivial
  | _ :: _ => ⟨.inr rfl, leE.refl⟩
theorem Sts.le (s : Sts p G0 H0 env σ G H) (h : leE env env') : Sts p G0 H0 env' σ G H := by
  obtain ⟨Fs, f⟩ := s.rs
  exact ⟨s.gr, by rw [s.len, h.length], fun i d e => s.va i d (h.get e (by intro z; cases z)), Fs, fun i r e => f.wh i r (h.get e (by intro z; cases z)), fun i j r r' a o n e e' => f.ap i j r r' a o n (h.get e (by intro z; cases z)) (h.get e' (by intro z; cases z))⟩
theorem Sts.set_va {i : Nat} {d : D} {v : V} (s : Sts p G0 H0 env σ G H) (h : Rp p G d v) : Sts p G0 H0 (env.set i (.va d)) (σ.set i (some v)) G H := by
  obtain ⟨Fs, f⟩ := s.rs
  refine ⟨s.gr, by simp [s.len], fun j d' e => ?_, Fs, f.set_va⟩
  rcases set_get e with ⟨rfl, q, hi⟩ | ⟨hj, e⟩
  · cases q
    exact ⟨v, by rw [List.getElem?_set_self (by rw [s.len]; exact hi)], h⟩
  · rw [List.getElem?_set_ne hj]
    exact s.va j d' e
theorem va_set_rs {i : Nat} {r : Rs} {v : V} (va : ∀ (i : Nat) d, env[i]? = some (.va d) → ∃ v, σ[i]? = some (some v) ∧ Rp p G d v) : ∀ (j : Nat) d, (env.set i (.rs r))[j]? = some (.va d) → ∃ v', (σ.set i (some v))[j]? = some (some v') ∧ Rp p G d v' := fun j d' e => by
  rcases set_get e with ⟨rfl, q, hi⟩ | ⟨hj, e⟩
  · cases q
  · rw [List.getElem?_set_ne hj]
    exact va j d' e
/-- a new thing of one's own: F was not there at (G, H) -/
theorem Sts.set_rs {i : Nat} {r : Rs} {v : V} {F : Hp} (s : Sts p G0 H0 env σ G H) (g : Gr G G' H H') (h : r.R p G' v F) (hF : Same F H') (hn : ∀ a o, F a = some o → H a = none ∧ G' a = none) : Sts p G0 H0 (env.set i (.rs r)) (σ.set i (some v)) G' H' := by
  obtain ⟨Fs, f⟩ := s.rs
  refine ⟨s.gr.trans g, by simp [s.len], va_set_rs (s.step g).va, _, (f.step g).set_rs s.len h hF (fun a o q => ⟨(hn a o q).2, s.gr.h.free (hn a o q).1⟩) fun j r' a o _ e q => ?_⟩
  obtain ⟨_, _, _, b3, _⟩ := f.wh j r' e
  exact b3.free (hn a o q).1
theorem Sts.write {i : Nat} {r : Rs} {Q : Prop} (s : Sts p G0 H0 env σ G H) (e : env[i]? = some (.rs r))
    (k : ∀ v F, σ[i]? = some (some v) → r.R p G v F → Same F H → (∀ a o, F a = some o → G a = none ∧ H0 a = none) → (∀ r' v' F' H', Wr H F F' H' → r'.R p G v' F' → Sts p G0 H0 (env.set i (.rs r')) (σ.set i (some v')) G H') → Q) : Q := by
  obtain ⟨Fs, f⟩ := s.rs
  obtain ⟨v, a1, a2, a3, a4⟩ := f.wh i r e
  refine k v (Fs i) a1 a2 a3 a4 fun r' v' F' H' w h => ?_
  have sg := s.gr.s
  have sh := s.gr.h
  refine ⟨⟨s.gr.g, w.keep sg fun a o q => ?_, w.keep sh fun a o q => ?_, s.gr.n⟩, by simp [s.len], va_set_rs s.va, _, f.write s.len sg sh e w h⟩
  · cases z : Fs i a with
    | none => rfl
    | some u => rw [(a4 a u z).1] at q; cases q
  · cases z : Fs i a with
    | none => rfl
    | some u => rw [(a4 a u z).2] at q; cases q
/-- the thing in slot i is written, something new (over H) having come between -/
structure Wr2 (G1 H H1 F F' H' : Hp) : Prop where
  on : Same F' H'
  off : ∀ a, F a = none → F' a = none → H' a = H1 a
  new : ∀ a o, F' a = some o → F a = none → H a = none ∧ G1 a = none
theorem Sts.writeG {i : Nat} {r : Rs} {Q : Prop} {G1 H1 : Hp} (s : Sts p G0 H0 env σ G H) (g : Gr G G1 H H1) (e : env[i]? = some (.rs r))
    (k : ∀ v F, σ[i]? = some (some v) → r.R p G1 v F → Same F H → (∀ a o, F a = some o → G1 a = none ∧ H0 a = none) → (∀ r' v' F' H', Wr2 G1 H H1 F F' H' → r'.R p G1 v' F' → Sts p G0 H0 (env.set i (.rs r')) (σ.set i (some v')) G1 H') → Q) : Q := by
  obtain ⟨Fs, f⟩ := s.rs
  obtain ⟨v, a1, a2, a3, a4⟩ := f.wh i r e
  have f1 := f.step g
  have s1 := s.step g
  obtain ⟨v', b1, b2, b3, b4⟩ := f1.wh i r e
  rw [a1] at b1
  cases b1
  refine k v (Fs i) a1 b2 a3 b4 fun r' v' F' H' w h => ?_
  -- what stood at H, or is known, and is not of F, stays
  have keep : ∀ {X : Hp}, Same X H1 → (∀ a o, X a = some o → Fs i a = none) → (∀ a o, X a = some o → G1 a = none → H a = none → False) → Same X H' := fun {X} sx d1 d2 a o q => by
    have h1 := d1 a o q
    cases z : F' a with
    | none => rw [w.off a h1 z]; exact sx a o q
    | some u =>
      obtain ⟨c1, c2⟩ := w.new a u z h1
      exact (d2 a o q c2 c1).elim
  have dj : ∀ {X : Hp}, (∀ a o, X a = some o → Fs i a = none) → (∀ a o, X a = some o → G1 a = none → H a = none → False) → ∀ a o, F' a = some o → X a = none := fun {X} d1 d2 a o q => by
    cases z : X a with
    | none => rfl
    | some u =>
      obtain ⟨c1, c2⟩ := w.new a o q (d1 a u z)
      exact (d2 a u z c2 c1).elim
  have dG1 : ∀ a o, G1 a = some o → Fs i a = none := fun a o q => by
    cases z : Fs i a with
    | none => rfl
    | some u => rw [(b4 a u z).1] at q; cases q
  have dG2 : ∀ a o, G1 a = some o → G1 a = none → H a = none → False := fun a o q c _ => by rw [q] at c; cases c
  have dH1 : ∀ a o, H0 a = some o → Fs i a = none := fun a o q => by
    cases z : Fs i a with
    | none => rfl
    | some u => rw [(b4 a u z).2] at q; cases q
  have dH2 : ∀ a o, H0 a = some o → G1 a = none → H a = none → False := fun a o q _ c => by
    have := s.gr.h a o q
    rw [c] at this; cases this
  have dF1 : ∀ j r1, i ≠ j → env[j]? = some (.rs r1) → ∀ a o, Fs j a = some o → Fs i a = none := fun j r1 n ej a o q => f.ap j i r1 r a o (Ne.symm n) ej e q
  have dF2 : ∀ j r1, env[j]? = some (.rs r1) → ∀ a o, Fs j a = some o → G1 a = none → H a = none → False := fun j r1 ej a o q _ c => by
    obtain ⟨_, _, _, c3, _⟩ := f.wh j r1 ej
    have := c3 a o q
    rw [c] at this; cases this
  refine ⟨⟨s1.gr.g, keep s1.gr.s dG1 dG2, keep s1.gr.h dH1 dH2, s1.gr.n⟩, by simp [s.len], va_set_rs s1.va, fun j => if i = j then F' else Fs j, fun j r1 e1 => ?_, fun j l r1 r2 a o n e1 e2 q => ?_⟩
  · rcases set_get e1 with ⟨rfl, q, hi⟩ | ⟨hj, e1⟩
    · cases q
      refine ⟨v', by rw [List.getElem?_set_self (by rw [s.len]; exact hi)], ?_⟩
      simp only [if_true]
      exact ⟨h, w.on, fun a o q => ⟨dj dG1 dG2 a o q, dj dH1 dH2 a o q⟩⟩
    · rw [List.getElem?_set_ne hj]
      simp only [if_neg hj]
      obtain ⟨v1, c1, c2, c3, c4⟩ := f1.wh j r1 e1
      exact ⟨v1, c1, c2, keep c3 (dF1 j r1 hj e1) (dF2 j r1 e1), c4⟩
  · rcases set_get e1 with ⟨rfl, _, _⟩ | ⟨hj, e1⟩
    · simp only [if_true] at q
      simp only [if_neg n]
      rcases set_get e2 with ⟨z, _, _⟩ | ⟨hk, e2⟩
      · exact absurd z n
      · exact dj (dF1 l r2 hk e2) (dF2 l r2 e2) a o q
    · simp only [if_neg hj] at q
      rcases set_get e2 with ⟨rfl, _, _⟩ | ⟨hk, e2⟩
      · simp only [if_true]
        cases z : F' a with
        | none => rfl
        | some u =>
          have := dj (dF1 j r1 hj e1) (dF2 j r1 e1) a u z
          rw [q] at this; cases this
      · simp only [if_neg hk]
        exact f.ap j l r1 r2 a o n e1 e2 q
/-- the list in slot i, as it stands, is given over -/
theorem Sts.freeze {i : Nat} {ds : List D} {Q : Prop} (s : Sts p G0 H0 env σ G H) (e : env[i]? = some (.ow ds)) (k : ∀ G', Same G G' → Sts p G0 H0 (env.set i (.va (.lst ds))) σ G' H → Q) : Q := by
  obtain ⟨Fs, f⟩ := s.rs
  obtain ⟨v, a1, ⟨l, vs, rfl, eF, h2⟩, a3, a4⟩ := f.wh i _ e
  have hl : Fs i l = some (.lst vs) := by rw [eF]; exact upd_same
  have hH := a3 _ _ hl
  obtain ⟨hG, hH0⟩ := a4 _ _ hl
  have sg : Same G (upd G l (.lst vs)) := same_new hG
  refine k _ sg ⟨s.gr.take hH0 hH hG, by simp [s.len], fun j d q => ?_, Fs, fun j r q => ?_, fun j k r r' a o n q q' => ?_⟩
  · rcases set_get q with ⟨rfl, q, hi⟩ | ⟨hj, q⟩
    · cases q
      exact ⟨.ref l, a1, l, vs, rfl, upd_same, RpA.mono sg _ h2⟩
    · exact (s.va j d q).imp fun v h => ⟨h.1, Rp.mono sg _ h.2⟩
  · rcases set_get q with ⟨rfl, q, hi⟩ | ⟨hj, q⟩
    · cases q
    · obtain ⟨v, b1, b2, b3, b4⟩ := f.wh j r q
      refine ⟨v, b1, r.mono sg b2, b3, fun a o z => ⟨?_, (b4 a o z).2⟩⟩
      have c : a ≠ l := fun c => by
        subst c
        have := f.ap i j _ r a _ hj e q hl
        rw [z] at this; cases this
      rw [upd_ne c]
      exact (b4 a o z).1
  · rcases set_get q with ⟨_, q, _⟩ | ⟨_, q⟩
    · cases q
    · rcases set_get q' with ⟨_, q', _⟩ | ⟨_, q'⟩
      · cases q'
      · exact f.ap j k r r' a o n q q'
end
end PU

set_option Elab.async false
set_option maxRecDepth 100000
set_option linter.all false
/-! PU2: expressions. -/
namespace PU
open PySem L2
open Enc

/-! ### results -/
def Res (p : Pm) (nw : Bool) (H G' H' : Hp) (d : D) (v : V) : Prop := match nw with
  | false => Rp p G' d v
  | true => ∃ l vs ds, v = .ref l ∧ d = .lst ds ∧ H l = none ∧ G' l = none ∧ H' l = some (.lst vs) ∧ RpA p G' ds vs
/-- te gives m: whatever m holds, te gives a value that stands for it -/
def Ev (p : Pm) (nw : Bool) (te : TE) (env : List Sl) {α : Type} [Enc α] (m : Option α) : Prop :=
  ∀ x, m = some x → ∀ G0 H0 σ G H, Sts p G0 H0 env σ G H → ∀ Q : VK, (∀ v G' H', Gr G G' H H' → Res p nw H G' H' (enc x) v → Q v H') → te σ H Q
def EvT (p : Pm) (tt : TT) (env : List Sl) (m : Option Bool) : Prop :=
  ∀ x, m = some x → ∀ G0 H0 σ G H, Sts p G0 H0 env σ G H → ∀ Q : Bool → Hp → Prop, (∀ G' H', Gr G G' H H' → Q x H') → tt σ H Q
def EvA (p : Pm) (ta : TA) (env : List Sl) (m : Option (List D)) : Prop :=
  ∀ x, m = some x → ∀ G0 H0 σ G H, Sts p G0 H0 env σ G H → ∀ Q : List V → Hp → Prop, (∀ vs G' H', Gr G G' H H' → RpA p G' x vs → Q vs H') → ta σ H Q
/-- a two-place rule on values -/
def RvOp (p : Pm) (nw : Bool) (r : R2) (d e : D) {α : Type} [Enc α] (m : Option α) : Prop :=
  ∀ z, m = some z → ∀ G H v w, Same G H → Rp p G d v → Rp p G e w → ∀ Q : VK, (∀ u G' H', Gr G G' H H' → Res p nw H G' H' (enc z) u → Q u H') → r v w H Q
/-- a call's rule on values -/
def RvC (p : Pm) (nw : Bool) (r : List V → Hp → VK → Prop) (ds : List D) {α : Type} [Enc α] (m : Option α) : Prop :=
  ∀ z, m = some z → ∀ G H vs, Same G H → RpA p G ds vs → ∀ Q : VK, (∀ u G' H', Gr G G' H H' → Res p nw H G' H' (enc z) u → Q u H') → r vs H Q

theorem bind_some {α β : Type} {m : Option α} {f : α → Option β} {y : β} (h : m.bind f = some y) : ∃ x, m = some x ∧ f x = some y := by
  cases m with
  | none => cases h
  | some x => exact ⟨x, rfl, h⟩

section
variable {p : Pm} {env : List Sl} {ta tb tc te : TE} {α β γ δ : Type} [Enc α] [Enc β] [Enc γ] [Enc δ]
theorem Ev.weak {m : Option α} (h : Ev p true te env m) : Ev p false te env m := fun x e G0 H0 σ G H s Q k =>
  h x e G0 H0 σ G H s Q fun v G' H' g r => by
    obtain ⟨l, vs, ds, rfl, e2, h1, h2, h3, h4⟩ := r
    refine k _ _ H' (g.take h1 h3 h2) ?_
    rw [e2]
    exact ⟨l, vs, rfl, upd_same, RpA.mono (same_new h2) _ h4⟩
theorem ev_var {i : Nat} {x : α} (h : env[i]? = some (.va (enc x))) : Ev p false (tVar i) env (some x) := fun y e G0 H0 σ G H s Q k => by
  cases e
  obtain ⟨v, h1, h2⟩ := s.va i _ h
  exact ⟨v, h1, k v G H (.refl s.gr.s) h2⟩
theorem ev_c {x : α} {v : V} (h : ∀ G, Rp p G (enc x) v) : Ev p false (tC v) env (some x) := fun y e G0 H0 σ G H s Q k => by
  cases e
  exact k v G H (.refl s.gr.s) (h G)
theorem ev_int {i : Int} : Ev p false (tC (.int i)) env (some i) := ev_c fun _ => rfl
theorem ev_bl {i : Bool} : Ev p false (tC (.bl i)) env (some i) := ev_c fun _ => rfl
theorem ev_non : Ev p false (tC .non) env (some ()) := ev_c fun _ => rfl
theorem ev_nonO : Ev p false (tC .non) env (some (none : Option α)) := ev_c fun _ => rfl
theorem ev_str {x : Str} : Ev p false (tC (.str x)) env (some (D.str x)) := ev_c fun _ => rfl
/-- a value is also this or none -/
theorem ev_some {nw : Bool} {m : Option α} (h : Ev p nw te env m) : Ev p nw te env (m.bind fun x => some (some x)) := fun y e => by
  obtain ⟨x, e1, e2⟩ := bind_some e
  cases e2
  exact h x e1
/-- this, and not none -/
theorem ev_un {nw : Bool} {m : Option (Option α)} (h : Ev p nw te env m) : Ev p nw te env (m.bind fun x => x) := fun y e => by
  obtain ⟨x, e1, e2⟩ := bind_some e
  cases e2
  exact h _ e1
theorem ev_is {nw : Bool} {m m' : Option α} (h : Ev p nw te env m) (e : m = m') : Ev p nw te env m' := e ▸ h
theorem ev_op {nw : Bool} {r : R2} {ma : Option α} {mb : Option β} {f : α → β → Option γ} (ha : Ev p false ta env ma) (hb : Ev p false tb env mb) (hr : ∀ x y, RvOp p nw r (enc x) (enc y) (f x y)) :
    Ev p nw (tOp r ta tb) env (ma.bind fun x => mb.bind fun y => f x y) := fun z e G0 H0 σ G H s Q k => by
  obtain ⟨x, e1, e⟩ := bind_some e
  obtain ⟨y, e2, e⟩ := bind_some e
  refine ha x e1 G0 H0 σ G H s _ fun v G1 H1 g1 r1 => ?_
  refine hb y e2 G0 H0 σ G1 H1 (s.step g1) _ fun w G2 H2 g2 r2 => ?_
  refine hr x y z e G2 H2 v w g2.s (Rp.mono g2.g _ r1) r2 Q fun u G3 H3 g3 r3 => ?_
  refine k u G3 H3 ((g1.trans g2).trans g3) ?_
  cases nw with
  | false => exact r3
  | true =>
    obtain ⟨l, vs, ds, q1, q2, q3, q4⟩ := r3
    exact ⟨l, vs, ds, q1, q2, (g1.trans g2).h.free q3, q4⟩
theorem ev_tun {r : V → Hp → VK → Prop} {ma : Option α} {f : α → Option γ} (ha : Ev p false ta env ma)
    (hr : ∀ x z, f x = some z → ∀ G H v, Same G H → Rp p G (enc x) v → ∀ Q : VK, (∀ u G' H', Gr G G' H H' → Rp p G' (enc z) u → Q u H') → r v H Q) :
    Ev p false (tUn r ta) env (ma.bind fun x => f x) := fun z e G0 H0 σ G H s Q k => by
  obtain ⟨x, e1, e⟩ := bind_some e
  refine ha x e1 G0 H0 σ G H s _ fun v G1 H1 g1 r1 => ?_
  exact hr x z e G1 H1 v g1.s r1 Q fun u G2 H2 g2 r2 => k u G2 H2 (g1.trans g2) r2

/-! ### ints -/
def mul? (i j : Int) : Option Int := if i.natAbs < 2 ^ 4000 ∧ j.natAbs < 2 ^ 4000 then some (i * j) else none
def fdiv? (i j : Int) : Option Int := if j ≠ 0 ∧ j.natAbs < 1073741824 then some (i.fdiv j) else none
def fmod? (i j : Int) : Option Int := if j ≠ 0 then some (i.fmod j) else none
def pow? (i j : Int) : Option Int := if 0 ≤ j ∧ j ≤ 1000000 ∧ i.natAbs < 2 ^ 64 then some (i ^ j.toNat) else none
theorem rv_II {h : Int → Int → Int} {i j : Int} : RvOp p false (rI0 fun i j => .int (h i j)) (enc i) (enc j) (some (h i j)) := by
  intro z ez G H v w s rv rw' Q k
  cases ez
  cases (show v = .int i from rv)
  cases (show w = .int j from rw')
  exact ⟨i, j, rfl, rfl, k _ G H (.refl s) rfl⟩
theorem rv_IB {h : Int → Int → Bool} {i j : Int} : RvOp p false (rI0 fun i j => .bl (h i j)) (enc i) (enc j) (some (h i j)) := by
  intro z ez G H v w s rv rw' Q k
  cases ez
  cases (show v = .int i from rv)
  cases (show w = .int j from rw')
  exact ⟨i, j, rfl, rfl, k _ G H (.refl s) rfl⟩
theorem rv_I {C : Int → Int → Prop} {g : Int → Int → V} {h : Int → Int → Option Int} (e : ∀ i j z, h i j = some z → C i j ∧ g i j = .int z) {i j : Int} : RvOp p false (rI C g) (enc i) (enc j) (h i j) := by
  intro z ez G H v w s rv rw' Q k
  cases (show v = .int i from rv)
  cases (show w = .int j from rw')
  obtain ⟨h1, h2⟩ := e i j z ez
  refine ⟨i, j, rfl, rfl, h1, k _ G H (.refl s) ?_⟩
  exact h2
variable {mi mj : Option Int}
theorem ev_add (ha : Ev p false ta env mi) (hb : Ev p false tb env mj) : Ev p false (tOp (rI0 fun i j => .int (i + j)) ta tb) env (mi.bind fun i => mj.bind fun j => some (i + j)) := ev_op ha hb fun _ _ => rv_II (h := fun i j => i + j)
theorem ev_sub (ha : Ev p false ta env mi) (hb : Ev p false tb env mj) : Ev p false (tOp (rI0 fun i j => .int (i - j)) ta tb) env (mi.bind fun i => mj.bind fun j => some (i - j)) := ev_op ha hb fun _ _ => rv_II (h := fun i j => i - j)
theorem ev_mul (ha : Ev p false ta env mi) (hb : Ev p false tb env mj) : Ev p false (tOp (rI CMulW fun i j => .int (i * j)) ta tb) env (mi.bind fun i => mj.bind fun j => mul? i j) := ev_op ha hb fun _ _ => rv_I (h := mul?) fun i j z e => by
  unfold mul? at e
  split at e
  · rename_i c
    cases e
    exact ⟨wide_mul c.1 c.2 (by decide) (by decide) (by decide), rfl⟩
  · cases e
theorem ev_fdiv (ha : Ev p false ta env mi) (hb : Ev p false tb env mj) : Ev p false (tOp (rI CDivN fun i j => .int (i.fdiv j)) ta tb) env (mi.bind fun i => mj.bind fun j => fdiv? i j) := ev_op ha hb fun _ _ => rv_I (h := fdiv?) fun i j z e => by
  unfold fdiv? at e
  split at e
  · rename_i c
    cases e
    exact ⟨c, rfl⟩
  · cases e
theorem ev_fmod (ha : Ev p false ta env mi) (hb : Ev p false tb env mj) : Ev p false (tOp (rI (fun _ j => j ≠ 0) fun i j => .int (i.fmod j)) ta tb) env (mi.bind fun i => mj.bind fun j => fmod? i j) := ev_op ha hb fun _ _ => rv_I (h := fmod?) fun i j z e => by
  unfold fmod? at e
  split at e
  · rename_i c
    cases e
    exact ⟨c, rfl⟩
  · cases e
theorem ev_pow (ha : Ev p false ta env mi) (hb : Ev p false tb env mj) : Ev p false (tOp (rI CPow fun i j => .int (i ^ j.toNat)) ta tb) env (mi.bind fun i => mj.bind fun j => pow? i j) := ev_op ha hb fun _ _ => rv_I (h := pow?) fun i j z e => by
  unfold pow? at e
  split at e
  · rename_i c
    cases e
    exact ⟨c, rfl⟩
  · cases e
theorem ev_lt (ha : Ev p false ta env mi) (hb : Ev p false tb env mj) : Ev p false (tOp (rI0 fun i j => .bl (decide (i < j))) ta tb) env (mi.bind fun i => mj.bind fun j => some (decide (i < j))) := ev_op ha hb fun _ _ => rv_IB (h := fun i j => decide (i < j))
theorem ev_le (ha : Ev p false ta env mi) (hb : Ev p false tb env mj) : Ev p false (tOp (rI0 fun i j => .bl (decide (i ≤ j))) ta tb) env (mi.bind fun i => mj.bind fun j => some (decide (i ≤ j))) := ev_op ha hb fun _ _ => rv_IB (h := fun i j => decide (i ≤ j))
theorem ev_gt (ha : Ev p false ta env mi) (hb : Ev p false tb env mj) : Ev p false (tOp (rI0 fun i j => .bl (decide (j < i))) ta tb) env (mi.bind fun i => mj.bind fun j => some (decide (j < i))) := ev_op ha hb fun _ _ => rv_IB (h := fun i j => decide (j < i))
theorem ev_ge (ha : Ev p false ta env mi) (hb : Ev p false tb env mj) : Ev p false (tOp (rI0 fun i j => .bl (decide (j ≤ i))) ta tb) env (mi.bind fun i => mj.bind fun j => some (decide (j ≤ i))) := ev_op ha hb fun _ _ => rv_IB (h := fun i j => decide (j ≤ i))
theorem ev_neg (ha : Ev p false ta env mi) : Ev p false (tUn (rU fun i => .int (-i)) ta) env (mi.bind fun i => some (-i)) := ev_tun ha fun i z e G H v s r Q k => by
  cases e
  cases (show v = .int i from r)
  exact ⟨i, rfl, k _ G H (.refl s) rfl⟩
/-- a < b < c and its like -/
theorem ev_chain {g g' : Int → Int → V} {h h' : Int → Int → Bool} {ml : Option Int} (e : ∀ i j, g i j = .bl (h i j)) (e' : ∀ i j, g' i j = .bl (h' i j)) (ha : Ev p false ta env mi) (hb : Ev p false tb env mj) (hc : Ev p false tc env ml) :
    Ev p false (tChain (rI0 g) (rI0 g') ta tb tc) env (mi.bind fun i => mj.bind fun j => if h i j = true then ml.bind fun l => some (h' j l) else some false) := fun z ez G0 H0 σ G H s Q k => by
  obtain ⟨i, e1, ez⟩ := bind_some ez
  obtain ⟨j, e2, ez⟩ := bind_some ez
  refine ha i e1 G0 H0 σ G H s _ fun v G1 H1 g1 r1 => ?_
  refine hb j e2 G0 H0 σ G1 H1 (s.step g1) _ fun w G2 H2 g2 r2 => ?_
  cases (show v = .int i from r1)
  cases (show w = .int j from r2)
  refine ⟨i, j, rfl, rfl, h i j, e i j, ?_⟩
  by_cases c : h i j = true
  · rw [if_pos c] at ez ⊢
    obtain ⟨l, e3, ez⟩ := bind_some ez
    cases ez
    refine hc l e3 G0 H0 σ G2 H2 ((s.step g1).step g2) _ fun u G3 H3 g3 r3 => ?_
    cases (show u = .int l from r3)
    refine ⟨j, l, rfl, rfl, ?_⟩
    refine k _ G3 H3 ((g1.trans g2).trans g3) ?_
    exact e' j l
  · rw [if_neg c] at ez ⊢
    cases ez
    exact k _ G2 H2 (g1.trans g2) rfl

/-! ### tests -/
theorem et_test {m : Option Bool} (h : Ev p false te env m) : EvT p (tTest te) env m := fun x e G0 H0 σ G H s Q k =>
  h x e G0 H0 σ G H s _ fun v G' H' g r => ⟨x, r, k G' H' g⟩
theorem et_B {m : Option Bool} (h : Ev p false te env m) : EvT p (tB te) env m := fun x e G0 H0 σ G H s Q k =>
  h x e G0 H0 σ G H s _ fun v G' H' g r => ⟨x, r, k G' H' g⟩
variable {t u : TT} {m1 m2 : Option Bool}
theorem et_and (h1 : EvT p t env m1) (h2 : EvT p u env m2) : EvT p (tAnd t u) env (m1.bind fun a => if a = true then m2 else some false) := fun x e G0 H0 σ G H s Q k => by
  obtain ⟨a, e1, e⟩ := bind_some e
  refine h1 a e1 G0 H0 σ G H s _ fun G1 H1 g1 => ?_
  cases a with
  | true => exact h2 x e G0 H0 σ G1 H1 (s.step g1) _ fun G2 H2 g2 => k G2 H2 (g1.trans g2)
  | false =>
    cases e
    exact k G1 H1 g1
theorem et_or (h1 : EvT p t env m1) (h2 : EvT p u env m2) : EvT p (tOr t u) env (m1.bind fun a => if a = true then some true else m2) := fun x e G0 H0 σ G H s Q k => by
  obtain ⟨a, e1, e⟩ := bind_some e
  refine h1 a e1 G0 H0 σ G H s _ fun G1 H1 g1 => ?_
  cases a with
  | false => exact h2 x e G0 H0 σ G1 H1 (s.step g1) _ fun G2 H2 g2 => k G2 H2 (g1.trans g2)
  | true =>
    cases e
    exact k G1 H1 g1
theorem et_not (h1 : EvT p t env m1) : EvT p (tNot t) env (m1.bind fun a => some (!a)) := fun x e G0 H0 σ G H s Q k => by
  obtain ⟨a, e1, e⟩ := bind_some e
  cases e
  exact h1 a e1 G0 H0 σ G H s _ fun G1 H1 g1 => k G1 H1 g1
theorem ev_and (h1 : Ev p false ta env m1) (h2 : Ev p false tb env m2) : Ev p false (tAndV ta tb) env (m1.bind fun a => if a = true then m2 else some false) := fun x e G0 H0 σ G H s Q k => by
  obtain ⟨a, e1, e⟩ := bind_some e
  refine h1 a e1 G0 H0 σ G H s _ fun v G1 H1 g1 r1 => ⟨a, r1, ?_⟩
  cases a with
  | true => exact h2 x e G0 H0 σ G1 H1 (s.step g1) _ fun v G2 H2 g2 r2 => k v G2 H2 (g1.trans g2) r2
  | false =>
    cases e
    exact k _ G1 H1 g1 rfl
theorem ev_or (h1 : Ev p false ta env m1) (h2 : Ev p false tb env m2) : Ev p false (tOrV ta tb) env (m1.bind fun a => if a = true then some true else m2) := fun x e G0 H0 σ G H s Q k => by
  obtain ⟨a, e1, e⟩ := bind_some e
  refine h1 a e1 G0 H0 σ G H s _ fun v G1 H1 g1 r1 => ⟨a, r1, ?_⟩
  cases a with
  | false => exact h2 x e G0 H0 σ G1 H1 (s.step g1) _ fun v G2 H2 g2 r2 => k v G2 H2 (g1.trans g2) r2
  | true =>
    cases e
    exact k _ G1 H1 g1 rfl
theorem ev_not (h1 : Ev p false ta env m1) : Ev p false (tNotV ta) env (m1.bind fun a => some (!a)) := fun x e G0 H0 σ G H s Q k => by
  obtain ⟨a, e1, e⟩ := bind_some e
  cases e
  exact h1 a e1 G0 H0 σ G H s _ fun v G1 H1 g1 r1 => ⟨a, r1, k _ G1 H1 g1 rfl⟩
theorem ev_if {nw : Bool} {ma mb : Option α} (h : EvT p t env m1) (h1 : Ev p nw ta env ma) (h2 : Ev p nw tb env mb) : Ev p nw (tIf t ta tb) env (m1.bind fun c => if c = true then ma else mb) := fun x e G0 H0 σ G H s Q k => by
  obtain ⟨c, e1, e⟩ := bind_some e
  refine h c e1 G0 H0 σ G H s _ fun G1 H1 g1 => ?_
  have fin : ∀ {w : Option α} {tw : TE}, Ev p nw tw env w → w = some x → tw σ H1 Q := fun hw ew => hw x ew G0 H0 σ G1 H1 (s.step g1) _ fun v G2 H2 g2 r2 => by
    refine k v G2 H2 (g1.trans g2) ?_
    cases nw with
    | false => exact r2
    | true =>
      obtain ⟨l, vs, ds, q1, q2, q3, q4⟩ := r2
      exact ⟨l, vs, ds, q1, q2, g1.h.free q3, q4⟩
  cases c with
  | true => exact fin h1 e
  | false => exact fin h2 e
/-- never None -/
class Nn (α : Type) [Enc α] : Prop where
  nn : ∀ {p : Pm} {G : Hp} {x : α} {v : V}, Rp p G (enc x) v → v ≠ .non
instance : Nn Int := ⟨fun h e => by rw [show _ = V.int _ from h] at e; cases e⟩
instance : Nn Bool := ⟨fun h e => by rw [show _ = V.bl _ from h] at e; cases e⟩
instance {α : Type} [Enc α] : Nn (List α) := ⟨fun h e => by
  obtain ⟨a, xs, h1, _⟩ := h
  rw [h1] at e; cases e⟩
instance {α β : Type} [Enc α] [Enc β] : Nn (α × β) := ⟨fun h e => by
  obtain ⟨a, xs, h1, _⟩ := h
  rw [h1] at e; cases e⟩
theorem ev_isN [Nn α] {ma : Option (Option α)} (h : Ev p false ta env ma) :
    Ev p false (tOp (fun x y H Q => y = .non ∧ Q (.bl (decide (x = .non))) H) ta (tC .non)) env (ma.bind fun x => some x.isNone) := fun z e G0 H0 σ G H s Q k => by
  obtain ⟨x, e1, e⟩ := bind_some e
  cases e
  refine h x e1 G0 H0 σ G H s _ fun v G1 H1 g1 r1 => ⟨rfl, k _ G1 H1 g1 ?_⟩
  cases x with
  | none =>
    cases (show v = .non from r1)
    rfl
  | some y =>
    show V.bl (decide (v = .non)) = .bl false
    rw [decide_eq_false (Nn.nn (x := y) r1)]
theorem ev_notN [Nn α] {ma : Option (Option α)} (h : Ev p false ta env ma) :
    Ev p false (tOp (fun x y H Q => y = .non ∧ Q (.bl (!decide (x = .non))) H) ta (tC .non)) env (ma.bind fun x => some (!x.isNone)) := fun z e G0 H0 σ G H s Q k => by
  obtain ⟨x, e1, e⟩ := bind_some e
  cases e
  refine h x e1 G0 H0 σ G H s _ fun v G1 H1 g1 r1 => ⟨rfl, k _ G1 H1 g1 ?_⟩
  cases x with
  | none =>
    cases (show v = .non from r1)
    rfl
  | some y =>
    show V.bl (!decide (v = .non)) = .bl true
    rw [decide_eq_false (Nn.nn (x := y) r1)]
    rfl

/-! ### args, displays -/
theorem ea_nil : EvA p tNil env (some []) := fun x e G0 H0 σ G H s Q k => by
  cases e
  exact k [] G H (.refl s.gr.s) rfl
theorem ea_cons {ma : Option α} {ms : Option (List D)} {tr : TA} (h : Ev p false ta env ma) (hr : EvA p tr env ms) : EvA p (tCons ta tr) env (ma.bind fun x => ms.bind fun ds => some (enc x :: ds)) := fun z e G0 H0 σ G H s Q k => by
  obtain ⟨x, e1, e⟩ := bind_some e
  obtain ⟨ds, e2, e⟩ := bind_some e
  cases e
  refine h x e1 G0 H0 σ G H s _ fun v G1 H1 g1 r1 => ?_
  exact hr ds e2 G0 H0 σ G1 H1 (s.step g1) _ fun vs G2 H2 g2 r2 => k _ G2 H2 (g1.trans g2) ⟨v, vs, rfl, Rp.mono g2.g _ r1, r2⟩
/-- args of one sort, n of them -/
def EvS (p : Pm) (n : Nat) (ta : TA) (env : List Sl) {α : Type} [Enc α] (m : Option (List α)) : Prop := EvA p ta env (m.bind fun xs => some (xs.map enc)) ∧ ∀ xs, m = some xs → xs.length = n
theorem es_nil : EvS p 0 tNil env (some ([] : List α)) := ⟨ea_nil, fun xs e => by cases e; rfl⟩
theorem es_cons {n : Nat} {ma : Option α} {ms : Option (List α)} {tr : TA} (h : Ev p false ta env ma) (hr : EvS p n tr env ms) : EvS p (n + 1) (tCons ta tr) env (ma.bind fun x => ms.bind fun xs => some (x :: xs)) := by
  refine ⟨fun z e => ea_cons h hr.1 z ?_, fun xs e => ?_⟩
  · obtain ⟨xs, e1, e⟩ := bind_some e
    obtain ⟨x, e2, e1⟩ := bind_some e1
    obtain ⟨ys, e3, e1⟩ := bind_some e1
    cases e1
    cases e
    rw [e2, e3]; rfl
  · obtain ⟨x, e2, e1⟩ := bind_some e
    obtain ⟨ys, e3, e1⟩ := bind_some e1
    cases e1
    simp [hr.2 ys e3]
/-- a list of many sorts -/
theorem es_consD {n : Nat} {ma : Option α} {ms : Option (List D)} {tr : TA} (h : Ev p false ta env ma) (hr : EvS p n tr env ms) : EvS p (n + 1) (tCons ta tr) env (ma.bind fun x => ms.bind fun xs => some (enc x :: xs)) := by
  refine ⟨fun z e => ea_cons h hr.1 z ?_, fun xs e => ?_⟩
  · obtain ⟨xs, e1, e⟩ := bind_some e
    obtain ⟨x, e2, e1⟩ := bind_some e1
    obtain ⟨ys, e3, e1⟩ := bind_some e1
    cases e1
    cases e
    rw [e2, e3]; rfl
  · obtain ⟨x, e2, e1⟩ := bind_some e
    obtain ⟨ys, e3, e1⟩ := bind_some e1
    cases e1
    simp [hr.2 ys e3]
theorem sz_of {n : Nat} (h : n ≤ 100000) : n ≤ sizeLine := Nat.le_trans h (by decide)
theorem ev_lst {n : Nat} {ta : TA} {m : Option (List α)} (h : EvS p n ta env m) (hn : n ≤ 100000 := by decide) : Ev p true (tLst ta) env m := fun z e G0 H0 σ G H s Q k => by
  refine h.1 (z.map enc) (by rw [e]; rfl) G0 H0 σ G H s _ fun vs G1 H1 g1 r1 => ⟨?_, fun l hl => ?_⟩
  · rw [← r1.length, List.length_map, h.2 z e]
    exact sz_of hn
  · exact k _ G1 _ (g1.trans (.own g1.s hl)) ⟨l, vs, z.map enc, rfl, rfl, g1.h.free hl, g1.s.free hl, upd_same, r1⟩
/-- a tuple read as a list -/
structure Tu (α : Type) where
  xs : List α
instance {α : Type} [Enc α] : Enc (Tu α) := ⟨fun t => .tup (t.xs.map enc)⟩
theorem ev_tupH {n : Nat} {ta : TA} {m : Option (List α)} (h : EvS p n ta env m) (hn : n ≤ 100000 := by decide) : Ev p false (tTup ta) env (m.bind fun xs => some (Tu.mk xs)) := fun z e G0 H0 σ G H s Q k => by
  obtain ⟨xs, e1, e⟩ := bind_some e
  cases e
  refine h.1 (xs.map enc) (by rw [e1]; rfl) G0 H0 σ G H s _ fun vs G1 H1 g1 r1 => ⟨?_, fun l hl => ?_⟩
  · rw [← r1.length, List.length_map, h.2 xs e1]
    exact sz_of hn
  · exact k _ _ _ (g1.trans (.new g1.s hl)) ⟨l, vs, rfl, upd_same, RpA.mono (same_new (g1.s.free hl)) _ r1⟩
theorem ev_tup2 {ma : Option α} {mb : Option β} (ha : Ev p false ta env ma) (hb : Ev p false tb env mb) : Ev p false (tTup (tCons ta (tCons tb tNil))) env (ma.bind fun x => mb.bind fun y => some (x, y)) := fun z e G0 H0 σ G H s Q k => by
  obtain ⟨x, e1, e⟩ := bind_some e
  obtain ⟨y, e2, e⟩ := bind_some e
  cases e
  refine ha x e1 G0 H0 σ G H s _ fun v G1 H1 g1 r1 => hb y e2 G0 H0 σ G1 H1 (s.step g1) _ fun w G2 H2 g2 r2 => ⟨by show 2 ≤ sizeLine; decide, fun l hl => ?_⟩
  have n2 := same_new (o := .tup [v, w]) (g2.s.free hl)
  exact k _ _ _ ((g1.trans g2).trans (.new g2.s hl)) ⟨l, [v, w], rfl, upd_same, ⟨v, [w], rfl, Rp.mono (g2.g.trans n2) _ r1, w, [], rfl, Rp.mono n2 _ r2, rfl⟩⟩

/-! ### places, slices, sums of lists -/
theorem atI_map {xs : List α} {vs : List V} {G : Hp} {i : Int} {x : α} (r : RpA p G (xs.map enc) vs) (h : atI xs i = some x) : ∃ v, atI vs i = some v ∧ Rp p G (enc x) v := by
  have hl : xs.length = vs.length := by rw [← r.length, List.length_map]
  unfold atI at h ⊢
  rw [← hl]
  cases e : ixN xs.length i with
  | none => rw [e] at h; cases h
  | some j =>
    rw [e] at h
    have h : xs[j]? = some x := h
    obtain ⟨v, h1, h2⟩ := r.get (i := j) (d := enc x) (by rw [List.getElem?_map, h]; rfl)
    exact ⟨v, h1, h2⟩
theorem ev_ixL {ma : Option (List α)} (ha : Ev p false ta env ma) (hb : Ev p false tb env mi) : Ev p false (tOp (rIxL p.K) ta tb) env (ma.bind fun xs => mi.bind fun i => atI xs i) := ev_op ha hb fun xs i => by
  intro z e G H v w s rv rw' Q k
  obtain ⟨a, vs, rfl, h1, h2⟩ := rv
  cases (show w = .int i from rw')
  obtain ⟨u, h3, h4⟩ := atI_map h2 e
  exact ⟨a, vs, i, u, rfl, rfl, .of (s _ _ h1), h3, k u G H (.refl s) h4⟩
theorem ev_ixT {ma : Option (Tu α)} (ha : Ev p false ta env ma) (hb : Ev p false tb env mi) : Ev p false (tOp (rIxT p.K) ta tb) env (ma.bind fun xs => mi.bind fun i => atI xs.xs i) := ev_op ha hb fun xs i => by
  intro z e G H v w s rv rw' Q k
  obtain ⟨a, vs, rfl, h1, h2⟩ := rv
  cases (show w = .int i from rw')
  obtain ⟨u, h3, h4⟩ := atI_map h2 e
  exact ⟨a, vs, i, u, rfl, rfl, .of (s _ _ h1), h3, k u G H (.refl s) h4⟩
theorem ev_fst {ma : Option (α × β)} (ha : Ev p false ta env ma) : Ev p false (tOp (rIxT p.K) ta (tC (.int 0))) env (ma.bind fun x => some x.1) := fun z e G0 H0 σ G H s Q k => by
  obtain ⟨x, e1, e⟩ := bind_some e
  cases e
  refine ha x e1 G0 H0 σ G H s _ fun v G1 H1 g1 r1 => ?_
  obtain ⟨a, vs, rfl, h1, v1, vs1, rfl, h2, v2, vs2, rfl, h3, rfl⟩ := r1
  exact ⟨a, [v1, v2], 0, v1, rfl, rfl, .of (g1.s _ _ h1), rfl, k _ G1 H1 g1 h2⟩
theorem ev_snd {ma : Option (α × β)} (ha : Ev p false ta env ma) : Ev p false (tOp (rIxT p.K) ta (tC (.int 1))) env (ma.bind fun x => some x.2) := fun z e G0 H0 σ G H s Q k => by
  obtain ⟨x, e1, e⟩ := bind_some e
  cases e
  refine ha x e1 G0 H0 σ G H s _ fun v G1 H1 g1 r1 => ?_
  obtain ⟨a, vs, rfl, h1, v1, vs1, rfl, h2, v2, vs2, rfl, h3, rfl⟩ := r1
  exact ⟨a, [v1, v2], 1, v2, rfl, rfl, .of (g1.s _ _ h1), rfl, k _ G1 H1 g1 h3⟩
/-- a part of a slice -/
def EvO (p : Pm) (to : TO) (env : List Sl) (m : Option (Option Int)) : Prop :=
  ∀ x, m = some x → ∀ G0 H0 σ G H, Sts p G0 H0 env σ G H → ∀ Q : Option Int → Hp → Prop, (∀ G' H', Gr G G' H H' → Q x H') → to σ H Q
theorem eo_none : EvO p tNoPart env (some none) := fun x e G0 H0 σ G H s Q k => by
  cases e
  exact k G H (.refl s.gr.s)
theorem eo_some (h : Ev p false ta env mi) : EvO p (tPart ta) env (mi.bind fun i => some (some i)) := fun x e G0 H0 σ G H s Q k => by
  obtain ⟨i, e1, e⟩ := bind_some e
  cases e
  exact h i e1 G0 H0 σ G H s _ fun v G1 H1 g1 r1 => ⟨i, r1, k G1 H1 g1⟩
def cut (xs : List α) (lo hi : Option Int) : List α := (xs.drop (HT.sIx xs.length 0 lo)).take (HT.sIx xs.length xs.length hi - HT.sIx xs.length 0 lo)
theorem RpA.cut {G : Hp} {xs : List α} {vs : List V} (r : RpA p G (xs.map enc) vs) (lo hi : Option Int) : RpA p G ((cut xs lo hi).map enc) (cutV vs lo hi) := by
  have hl : xs.length = vs.length := by rw [← r.length, List.length_map]
  unfold PU.cut cutV
  rw [← hl, List.map_take, List.map_drop]
  exact (r.drop _).take _
theorem ev_slice {to tp : TO} {ma : Option (List α)} {ml mh : Option (Option Int)} (ha : Ev p false ta env ma) (hl : EvO p to env ml) (hh : EvO p tp env mh) : Ev p true (tSl (rSlL p.K) ta to tp) env (ma.bind fun xs => ml.bind fun l => mh.bind fun h => some (cut xs l h)) := fun z e G0 H0 σ G H s Q k => by
  obtain ⟨xs, e1, e⟩ := bind_some e
  obtain ⟨l, e2, e⟩ := bind_some e
  obtain ⟨h, e3, e⟩ := bind_some e
  cases e
  refine ha xs e1 G0 H0 σ G H s _ fun v G1 H1 g1 r1 => hl l e2 G0 H0 σ G1 H1 (s.step g1) _ fun G2 H2 g2 => hh h e3 G0 H0 σ G2 H2 ((s.step g1).step g2) _ fun G3 H3 g3 => ?_
  obtain ⟨a, vs, rfl, h1, h2⟩ := r1
  refine ⟨a, vs, rfl, .of (g3.s _ _ (g3.g _ _ (g2.g _ _ h1))), fun q hq => ?_⟩
  exact k _ G3 _ (((g1.trans g2).trans g3).trans (.own g3.s hq)) ⟨q, _, _, rfl, rfl, ((g1.trans g2).trans g3).h.free hq, g3.s.free hq, upd_same, RpA.mono (g2.g.trans g3.g) _ (h2.cut l h)⟩
theorem ev_rev {ma : Option (List α)} (ha : Ev p false ta env ma) : Ev p true (tRevL p.K ta) env (ma.bind fun xs => some xs.reverse) := fun z e G0 H0 σ G H s Q k => by
  obtain ⟨xs, e1, e⟩ := bind_some e
  cases e
  refine ha xs e1 G0 H0 σ G H s _ fun v G1 H1 g1 r1 => ?_
  obtain ⟨a, vs, rfl, h1, h2⟩ := r1
  refine ⟨a, vs, rfl, .of (g1.s _ _ h1), fun q hq => ?_⟩
  refine k _ G1 _ (g1.trans (.own g1.s hq)) ⟨q, vs.reverse, (xs.map enc).reverse, rfl, ?_, g1.h.free hq, g1.s.free hq, upd_same, h2.reverse⟩
  rw [← List.map_reverse]; rfl
def cat? (xs ys : List α) : Option (List α) := if xs.length + ys.length ≤ 100000 then some (xs ++ ys) else none
theorem ev_cat {ma mb : Option (List α)} (ha : Ev p false ta env ma) (hb : Ev p false tb env mb) : Ev p true (tOp rCat ta tb) env (ma.bind fun xs => mb.bind fun ys => cat? xs ys) := ev_op ha hb fun xs ys => by
  intro z e G H v w s rv rw' Q k
  unfold cat? at e
  split at e
  · rename_i c
    cases e
    obtain ⟨a, vs, rfl, h1, h2⟩ := rv
    obtain ⟨b, ws, rfl, h3, h4⟩ := rw'
    have l1 := h2.length
    have l2 := h4.length
    rw [List.length_map] at l1 l2
    refine ⟨a, b, vs, ws, rfl, rfl, s _ _ h1, s _ _ h3, sz_of (by omega), fun q hq => ?_⟩
    refine k _ G _ (.own s hq) ⟨q, vs ++ ws, xs.map enc ++ ys.map enc, rfl, ?_, hq, s.free hq, upd_same, h2.append h4⟩
    rw [← List.map_append]; rfl
  · cases e
def rep? (xs : List α) (i : Int) : Option (List α) := if i.natAbs < 100000 ∧ xs.length * i.toNat ≤ 100000 then some ((List.replicate i.toNat xs).flatten) else none

/-! ### built-ins on lists -/
theorem ev_cb {nw : Bool} {r : List V → Hp → VK → Prop} {ta : TA} {ms : Option (List D)} {f : List D → Option γ} (h : EvA p ta env ms) (hr : ∀ ds, RvC p nw r ds (f ds)) : Ev p nw (tCB r ta) env (ms.bind f) := fun z e G0 H0 σ G H s Q k => by
  obtain ⟨ds, e1, e⟩ := bind_some e
  refine h ds e1 G0 H0 σ G H s _ fun vs G1 H1 g1 r1 => hr ds z e G1 H1 vs g1.s r1 Q fun u G2 H2 g2 r2 => k u G2 H2 (g1.trans g2) ?_
  cases nw with
  | false => exact r2
  | true =>
    obtain ⟨l, vs, ds, q1, q2, q3, q4⟩ := r2
    exact ⟨l, vs, ds, q1, q2, g1.h.free q3, q4⟩
theorem ev_cb1 {nw : Bool} {r : List V → Hp → VK → Prop} {ma : Option α} {f : α → Option γ} (h : Ev p false te env ma) (hr : ∀ x, RvC p nw r [enc x] (f x)) : Ev p nw (tCB r (tCons te tNil)) env (ma.bind f) := fun z e G0 H0 σ G H s Q k => by
  obtain ⟨x, e1, e⟩ := bind_some e
  refine h x e1 G0 H0 σ G H s _ fun v G1 H1 g1 r1 => hr x z e G1 H1 [v] g1.s ⟨v, [], rfl, r1, rfl⟩ Q fun u G2 H2 g2 r2 => k u G2 H2 (g1.trans g2) ?_
  cases nw with
  | false => exact r2
  | true =>
    obtain ⟨l, vs, ds, q1, q2, q3, q4⟩ := r2
    exact ⟨l, vs, ds, q1, q2, g1.h.free q3, q4⟩
theorem one_lst {G : Hp} {xs : List α} {vs : List V} (r : RpA p G [enc xs] vs) : ∃ a ws, vs = [.ref a] ∧ G a = some (.lst ws) ∧ RpA p G (xs.map enc) ws := by
  obtain ⟨v, ws, rfl, ⟨a, us, rfl, h1, h2⟩, rfl⟩ := r
  exact ⟨a, us, rfl, h1, h2⟩
def rLenQ (K : PySem.W.Frag) : List V → Hp → VK → Prop := fun xs H Q => ∃ q ys, xs = [.ref q] ∧ (SqL K H q ys ∨ SqT K H q ys) ∧ Q (.int ys.length) H
theorem ev_len {ma : Option (List α)} (h : Ev p false te env ma) : Ev p false (tCB (rLenQ p.K) (tCons te tNil)) env (ma.bind fun xs => some (xs.length : Int)) := ev_cb1 h fun xs z e G H vs s r Q k => by
  cases e
  obtain ⟨a, ws, rfl, h1, h2⟩ := one_lst r
  refine ⟨a, ws, rfl, .inl (.of (s _ _ h1)), ?_⟩
  have hl : xs.length = ws.length := by rw [← h2.length, List.length_map]
  rw [← hl]
  exact k _ G H (.refl s) rfl
theorem ints_of {G : Hp} {xs : List Int} {ws : List V} (r : RpA p G (xs.map enc) ws) : ws = xs.map V.int := RpA.ints r
theorem of_ints {G : Hp} {xs : List Int} : RpA p G (xs.map enc) (xs.map V.int) := RpA.of_ints
theorem ev_sum {ma : Option (List Int)} (h : Ev p false te env ma) : Ev p false (tCB (rSum p.K) (tCons te tNil)) env (ma.bind fun xs => some xs.sum) := ev_cb1 h fun xs z e G H vs s r Q k => by
  cases e
  obtain ⟨a, ws, rfl, h1, h2⟩ := one_lst r
  cases ints_of h2
  exact ⟨a, xs, rfl, .of (s _ _ h1), k _ G H (.refl s) rfl⟩
def maxL : List Int → Option Int
  | [] => none
  | x :: xs => some (xs.foldl (fun a b => if a < b then b else a) x)
def minL : List Int → Option Int
  | [] => none
  | x :: xs => some (xs.foldl (fun a b => if b < a then b else a) x)
theorem maxL_aux : ∀ (xs : List Int) (x : Int), (∀ y ∈ x :: xs, y ≤ xs.foldl (fun a b => if a < b then b else a) x) ∧ xs.foldl (fun a b => if a < b then b else a) x ∈ x :: xs
  | [], x => by simp
  | y :: ys, x => by
    have h := maxL_aux ys (if x < y then y else x)
    simp only [List.foldl_cons]
    refine ⟨fun z hz => ?_, ?_⟩
    · have h0 := h.1 _ List.mem_cons_self
      rcases List.mem_cons.mp hz with rfl | hz
      · split at h0 <;> rename_i c <;> simp only [c, if_true, if_false] <;> omega
      · rcases List.mem_cons.mp hz with rfl | hz
        · split at h0 <;> rename_i c <;> simp only [c, if_true, if_false] <;> omega
        · exact h.1 z (List.mem_cons_of_mem _ hz)
    · rcases List.mem_cons.mp h.2 with e | e
      · rw [e]; split <;> simp
      · exact List.mem_cons_of_mem _ (List.mem_cons_of_mem _ e)
theorem minL_aux : ∀ (xs : List Int) (x : Int), (∀ y ∈ x :: xs, xs.foldl (fun a b => if b < a then b else a) x ≤ y) ∧ xs.foldl (fun a b => if b < a then b else a) x ∈ x :: xs
  | [], x => by simp
  | y :: ys, x => by
    have h := minL_aux ys (if y < x then y else x)
    simp only [List.foldl_cons]
    refine ⟨fun z hz => ?_, ?_⟩
    · have h0 := h.1 _ List.mem_cons_self
      rcases List.mem_cons.mp hz with rfl | hz
      · split at h0 <;> rename_i c <;> simp only [c, if_true, if_false] <;> omega
      · rcases List.mem_cons.mp hz with rfl | hz
        · split at h0 <;> rename_i c <;> simp only [c, if_true, if_false] <;> omega
        · exact h.1 z (List.mem_cons_of_mem _ hz)
    · rcases List.mem_cons.mp h.2 with e | e
      · rw [e]; split <;> simp
      · exact List.mem_cons_of_mem _ (List.mem_cons_of_mem _ e)
theorem maxL_spec {xs : List Int} {m : Int} (h : maxL xs = some m) : m ∈ xs ∧ ∀ y ∈ xs, y ≤ m := by
  cases xs with
  | nil => cases h
  | cons x xs =>
    cases h
    exact ⟨(maxL_aux xs x).2, (maxL_aux xs x).1⟩
theorem minL_spec {xs : List Int} {m : Int} (h : minL xs = some m) : m ∈ xs ∧ ∀ y ∈ xs, m ≤ y := by
  cases xs with
  | nil => cases h
  | cons x xs =>
    cases h
    exact ⟨(minL_aux xs x).2, (minL_aux xs x).1⟩
theorem maxL_eq {xs : List Int} {m : Int} (h1 : m ∈ xs) (h2 : ∀ y ∈ xs, y ≤ m) : maxL xs = some m := by
  cases h : maxL xs with
  | none =>
    cases xs with
    | nil => cases h1
    | cons x xs => cases h
  | some n =>
    have := maxL_spec h
    have a := h2 n this.1
    have b := this.2 m h1
    rw [show n = m by omega]
theorem minL_eq {xs : List Int} {m : Int} (h1 : m ∈ xs) (h2 : ∀ y ∈ xs, m ≤ y) : minL xs = some m := by
  cases h : minL xs with
  | none =>
    cases xs with
    | nil => cases h1
    | cons x xs => cases h
  | some n =>
    have := minL_spec h
    have a := h2 n this.1
    have b := this.2 m h1
    rw [show n = m by omega]
theorem ev_max {ma : Option (List Int)} (h : Ev p false te env ma) : Ev p false (tCB (rMax p.K) (tCons te tNil)) env (ma.bind fun xs => maxL xs) := ev_cb1 h fun xs z e G H vs s r Q k => by
  obtain ⟨a, ws, rfl, h1, h2⟩ := one_lst r
  cases ints_of h2
  have hz := maxL_spec e
  refine ⟨a, xs, rfl, .of (s _ _ h1), List.length_pos_of_mem hz.1, fun m hm hle => ?_⟩
  have a1 := hle z hz.1
  have a2 := hz.2 m hm
  rw [show m = z by omega]
  exact k _ G H (.refl s) rfl
theorem ev_min {ma : Option (List Int)} (h : Ev p false te env ma) : Ev p false (tCB (rMin p.K) (tCons te tNil)) env (ma.bind fun xs => minL xs) := ev_cb1 h fun xs z e G H vs s r Q k => by
  obtain ⟨a, ws, rfl, h1, h2⟩ := one_lst r
  cases ints_of h2
  have hz := minL_spec e
  refine ⟨a, xs, rfl, .of (s _ _ h1), List.length_pos_of_mem hz.1, fun m hm hle => ?_⟩
  have a1 := hle z hz.1
  have a2 := hz.2 m hm
  rw [show m = z by omega]
  exact k _ G H (.refl s) rfl
theorem ev_all {ma : Option (List Bool)} (h : Ev p false te env ma) : Ev p false (tCB (rAll p.K) (tCons te tNil)) env (ma.bind fun xs => some (xs.all id)) := ev_cb1 h fun xs z e G H vs s r Q k => by
  cases e
  obtain ⟨a, ws, rfl, h1, h2⟩ := one_lst r
  cases (RpA.bls h2 : ws = xs.map V.bl)
  exact ⟨a, xs, rfl, .of (s _ _ h1), k _ G H (.refl s) rfl⟩
theorem ev_any {ma : Option (List Bool)} (h : Ev p false te env ma) : Ev p false (tCB (rAny p.K) (tCons te tNil)) env (ma.bind fun xs => some (xs.any id)) := ev_cb1 h fun xs z e G H vs s r Q k => by
  cases e
  obtain ⟨a, ws, rfl, h1, h2⟩ := one_lst r
  cases (RpA.bls h2 : ws = xs.map V.bl)
  exact ⟨a, xs, rfl, .of (s _ _ h1), k _ G H (.refl s) rfl⟩
def rListQ (K : PySem.W.Frag) : List V → Hp → VK → Prop := fun xs H Q => ∃ q ys, xs = [.ref q] ∧ (SqL K H q ys ∨ SqT K H q ys) ∧ ∀ l, H l = none → Q (.ref l) (upd H l (.lst ys))
theorem ev_list {ma : Option (List α)} (h : Ev p false te env ma) : Ev p true (tCB (rListQ p.K) (tCons te tNil)) env (ma.bind fun xs => some xs) := ev_cb1 h fun xs z e G H vs s r Q k => by
  cases e
  obtain ⟨a, ws, rfl, h1, h2⟩ := one_lst r
  exact ⟨a, ws, rfl, .inl (.of (s _ _ h1)), fun l hl => k _ G _ (.own s hl) ⟨l, ws, xs.map enc, rfl, rfl, hl, s.free hl, upd_same, h2⟩⟩
/-- rising -/
def ins (x : Int) : List Int → List Int
  | [] => [x]
  | y :: ys => if x ≤ y then x :: y :: ys else y :: ins x ys
def isort : List Int → List Int
  | [] => []
  | x :: xs => ins x (isort xs)
theorem ins_perm (x : Int) : ∀ ys : List Int, (ins x ys).Perm (x :: ys)
  | [] => .refl _
  | y :: ys => by
    unfold ins
    split
    · exact .refl _
    · exact ((ins_perm x ys).cons y).trans (.swap x y ys)
theorem ins_sorted (x : Int) : ∀ ys : List Int, ys.Pairwise (· ≤ ·) → (ins x ys).Pairwise (· ≤ ·)
  | [], _ => by simp [ins]
  | y :: ys, h => by
    unfold ins
    obtain ⟨h1, h2⟩ := List.pairwise_cons.mp h
    split
    · rename_i c
      refine List.pairwise_cons.mpr ⟨fun z hz => ?_, h⟩
      rcases List.mem_cons.mp hz with rfl | hz
      · exact c
      · have := h1 z hz; omega
    · rename_i c
      refine List.pairwise_cons.mpr ⟨fun z hz => ?_, ins_sorted x ys h2⟩
      rcases List.mem_cons.mp ((ins_perm x ys).mem_iff.mp hz) with rfl | hz
      · omega
      · exact h1 z hz
theorem isort_perm : ∀ xs : List Int, (isort xs).Perm xs
  | [] => .refl _
  | x :: xs => (ins_perm x _).trans ((isort_perm xs).cons x)
theorem isort_sorted : ∀ xs : List Int, (isort xs).Pairwise (· ≤ ·)
  | [] => .nil
  | x :: xs => ins_sorted x _ (isort_sorted xs)
theorem sorted_eq : ∀ {xs ys : List Int}, xs.Perm ys → xs.Pairwise (· ≤ ·) → ys.Pairwise (· ≤ ·) → xs = ys
  | [], ys, h, _, _ => (List.nil_perm.mp h).symm
  | x :: xs, [], h, _, _ => by cases List.perm_nil.mp h
  | x :: xs, y :: ys, h, h1, h2 => by
    obtain ⟨a1, a2⟩ := List.pairwise_cons.mp h1
    obtain ⟨b1, b2⟩ := List.pairwise_cons.mp h2
    have hxy : x = y := by
      have m1 : x ∈ y :: ys := h.mem_iff.mp List.mem_cons_self
      have m2 : y ∈ x :: xs := h.mem_iff.mpr List.mem_cons_self
      rcases List.mem_cons.mp m1 with e | m1
      · exact e
      · rcases List.mem_cons.mp m2 with e | m2
        · exact e.symm
        · have := b1 x m1
          have := a1 y m2
          omega
    subst hxy
    rw [sorted_eq (List.perm_cons x |>.mp h) a2 b2]
def sort? (xs : List Int) : Option (List Int) := if xs.length < 64 then some (isort xs) else none
theorem ev_sorted {ma : Option (List Int)} (h : Ev p false te env ma) : Ev p true (tCB (rSorted p.K) (tCons te tNil)) env (ma.bind fun xs => sort? xs) := ev_cb1 h fun xs z e G H vs s r Q k => by
  unfold sort? at e
  split at e
  · rename_i c
    cases e
    obtain ⟨a, ws, rfl, h1, h2⟩ := one_lst r
    cases ints_of h2
    refine ⟨a, xs, rfl, .of (s _ _ h1), c, fun ns l pm so hl => ?_⟩
    cases sorted_eq (pm.trans (isort_perm xs).symm) so (isort_sorted xs)
    exact k _ G _ (.own s hl) ⟨l, _, (isort xs).map enc, rfl, rfl, hl, s.free hl, upd_same, of_ints⟩
  · cases e
/-- xs.index(x) -/
def idx? (xs : List Int) (x : Int) : Option Int := (xs.findIdx? (· == x)).map fun (n : Nat) => (n : Int)
theorem flat_ints : ∀ xs : List Int, (xs.map V.int).all flatV = true := fun xs => by
  rw [List.all_eq_true]
  intro v hv
  obtain ⟨n, _, rfl⟩ := List.mem_map.mp hv
  rfl
theorem ev_index {ma : Option (List Int)} {mb : Option Int} (ha : Ev p false ta env ma) (hb : Ev p false tb env mb) : Ev p false (tBM p.K "list" (rIndex p.K) ta (tCons tb tNil)) env (ma.bind fun xs => mb.bind fun x => idx? xs x) := fun z e G0 H0 σ G H s Q k => by
  obtain ⟨xs, e1, e⟩ := bind_some e
  obtain ⟨x, e2, e⟩ := bind_some e
  refine ha xs e1 G0 H0 σ G H s _ fun v G1 H1 g1 r1 => ?_
  obtain ⟨a, vs, rfl, h1, h2⟩ := r1
  cases ints_of h2
  refine ⟨.inl ⟨rfl, _, .of (g1.s _ _ h1)⟩, ?_⟩
  refine hb x e2 G0 H0 σ G1 H1 (s.step g1) _ fun w G2 H2 g2 r2 => ?_
  cases (show w = .int x from r2)
  unfold idx? at e
  cases f : xs.findIdx? (· == x) with
  | none => rw [f] at e; cases e
  | some j =>
    rw [f] at e
    cases e
    obtain ⟨hj, hx, hn⟩ := List.findIdx?_eq_some_iff_getElem.mp f
    refine ⟨a, xs.map V.int, .int x, j, .int xs[j], rfl, rfl, .of (g2.s _ _ (g2.g _ _ h1)), rfl, flat_ints xs, ?_, ?_, fun m z hm hz => ?_, k _ G2 H2 (g1.trans g2) rfl⟩
    · rw [List.getElem?_map, List.getElem?_eq_getElem hj]; rfl
    · exact hx
    · have hm' : m < xs.length := by omega
      rw [List.getElem?_map, List.getElem?_eq_getElem hm'] at hz
      cases hz
      have := hn m hm
      show (xs[m] == x) = false
      simpa using this
/-- x in xs -/
theorem inV_ints (x : Int) (xs : List Int) : inV (.int x) (xs.map V.int) = decide (x ∈ xs) := by
  unfold inV
  induction xs with
  | nil => rfl
  | cons y ys ih =>
    rw [List.map_cons, List.any_cons, ih]
    show ((y == x) || _) = _
    by_cases h : y = x
    · subst h; simp
    · have : ¬ x = y := fun e => h e.symm
      simp [h, this]
theorem ev_in {ma : Option Int} {mb : Option (List Int)} (ha : Ev p false ta env ma) (hb : Ev p false tb env mb) : Ev p false (tOp (rIn p.K false) ta tb) env (ma.bind fun x => mb.bind fun xs => some (decide (x ∈ xs))) := ev_op ha hb fun x xs => by
  intro z e G H v w s rv rw' Q k
  cases e
  cases (show v = .int x from rv)
  obtain ⟨a, vs, rfl, h1, h2⟩ := rw'
  cases ints_of h2
  refine ⟨a, _, rfl, .inl (.of (s _ _ h1)), rfl, flat_ints xs, ?_⟩
  show Q (.bl (inV (.int x) (xs.map V.int))) H
  rw [inV_ints]
  exact k _ G H (.refl s) rfl
theorem ev_notIn {ma : Option Int} {mb : Option (List Int)} (ha : Ev p false ta env ma) (hb : Ev p false tb env mb) : Ev p false (tOp (rIn p.K true) ta tb) env (ma.bind fun x => mb.bind fun xs => some (!decide (x ∈ xs))) := ev_op ha hb fun x xs => by
  intro z e G H v w s rv rw' Q k
  cases e
  cases (show v = .int x from rv)
  obtain ⟨a, vs, rfl, h1, h2⟩ := rw'
  cases ints_of h2
  refine ⟨a, _, rfl, .inl (.of (s _ _ h1)), rfl, flat_ints xs, ?_⟩
  show Q (.bl (!inV (.int x) (xs.map V.int))) H
  rw [inV_ints]
  exact k _ G H (.refl s) rfl
theorem ev_abs (h : Ev p false te env mi) : Ev p false (tCB (fun xs H Q => ∃ i, xs = [.int i] ∧ Q (.int (if i < 0 then -i else i)) H) (tCons te tNil)) env (mi.bind fun i => some (if i < 0 then -i else i)) := ev_cb1 h fun i z e G H vs s r Q k => by
  cases e
  obtain ⟨v, ws, rfl, h1, rfl⟩ := r
  cases (show v = .int i from h1)
  exact ⟨i, rfl, k _ G H (.refl s) rfl⟩
theorem ev_max2 (ha : Ev p false ta env mi) (hb : Ev p false tb env mj) : Ev p false (tCB (fun xs H Q => ∃ i j, xs = [.int i, .int j] ∧ Q (.int (if j > i then j else i)) H) (tCons ta (tCons tb tNil))) env (mi.bind fun i => mj.bind fun j => some (if j > i then j else i)) := fun z e G0 H0 σ G H s Q k => by
  obtain ⟨x, e1, e⟩ := bind_some e
  obtain ⟨y, e2, e⟩ := bind_some e
  cases e
  refine ha x e1 G0 H0 σ G H s _ fun v G1 H1 g1 r1 => hb y e2 G0 H0 σ G1 H1 (s.step g1) _ fun w G2 H2 g2 r2 => ?_
  cases (show v = .int x from r1)
  cases (show w = .int y from r2)
  exact ⟨x, y, rfl, k _ G2 H2 (g1.trans g2) rfl⟩
/-- list(range(n)) -/
def rng (a b : Int) : List Int := (List.range (b - a).toNat).map fun (i : Nat) => a + (i : Int)
def rng? (a b : Int) : Option (List Int) := if a.natAbs ≤ 100000 ∧ b.natAbs ≤ 100000 then some (rng a b) else none
theorem rgV_eq (a b : Int) : rgV a b = (rng a b).map V.int := by
  unfold rgV rng
  rw [List.map_map]
  rfl
theorem ev_listRg (h : Ev p false te env mi) : Ev p true (tLstRg (tRg1 te)) env (mi.bind fun i => rng? 0 i) := fun z e G0 H0 σ G H s Q k => by
  obtain ⟨i, e1, e⟩ := bind_some e
  unfold rng? at e
  split at e
  · rename_i c
    cases e
    refine h i e1 G0 H0 σ G H s _ fun v G1 H1 g1 r1 => ⟨i, r1, ⟨by omega, by omega, by omega, by omega, by omega⟩, fun q hq => ?_⟩
    rw [rgV_eq]
    exact k _ G1 _ (g1.trans (.own g1.s hq)) ⟨q, _, (rng 0 i).map enc, rfl, rfl, g1.h.free hq, g1.s.free hq, upd_same, of_ints⟩
  · cases e
end
end PU

set_option Elab.async false
set_option maxRecDepth 100000
set_option linter.all false
/-! PU3: equality of data, walked things, comprehensions, calls, statements, loops, defs. -/
namespace PU
open PySem L2
open Enc

/-! ### equality -/
class EqOk (α : Type) [Enc α] [DecidableEq α] where
  pd : α → PyData
  dp : ∀ {p : Pm} {G : Hp} (x : α) (v : V), Rp p G (enc x) v → Dp p.K G v (pd x)
  lay : ∀ x, (pd x).canLay0 = true
  dep : Nat
  hdep : ∀ x, (pd x).depth ≤ dep
  eqv : ∀ x y, PyData.eqv (pd x) (pd y) = decide (x = y)
instance : EqOk Int where
  pd := .int
  dp := fun x v h => by rw [show v = .int x from h]; exact .int x
  lay := fun _ => by simp only [PyData.canLay0]
  dep := 0
  hdep := fun _ => by simp only [PyData.depth]; exact Nat.le_refl _
  eqv := fun x y => by
    show PyData.eqv (.int x) (.int y) = _
    simp only [PyData.eqv]
    by_cases h : x = y <;> simp [h]
instance : EqOk Bool where
  pd := .bool
  dp := fun x v h => by rw [show v = .bl x from h]; exact .bl x
  lay := fun _ => by simp only [PyData.canLay0]
  dep := 0
  hdep := fun _ => by simp only [PyData.depth]; exact Nat.le_refl _
  eqv := fun x y => by
    show PyData.eqv (.bool x) (.bool y) = _
    simp only [PyData.eqv]
    cases x <;> cases y <;> rfl
instance : EqOk (Option Int) where
  pd := fun o => match o with | none => .none | some i => .int i
  dp := fun x v h => by
    cases x with
    | none => rw [show v = .non from h]; exact .non
    | some i => rw [show v = .int i from h]; exact .int i
  lay := fun x => by cases x <;> simp only [PyData.canLay0]
  dep := 0
  hdep := fun x => by cases x <;> (simp only [PyData.depth]; exact Nat.le_refl _)
  eqv := fun x y => by
    cases x <;> cases y <;> simp only [PyData.eqv] <;> simp
    rename_i a b
    by_cases h : a = b <;> simp [h]
section
variable {α : Type} [Enc α] [DecidableEq α] [EqOk α]
theorem dpAll : ∀ {p : Pm} {G : Hp} (xs : List α) (vs : List V), RpA p G (xs.map enc) vs → DpAll p.K G vs (xs.map EqOk.pd)
  | _, _, [], vs, h => by rw [show vs = [] from h]; exact .nil
  | _, _, x :: xs, vs, h => by
    obtain ⟨v, vs, rfl, h1, h2⟩ := h
    exact .cons (EqOk.dp x v h1) (dpAll xs vs h2)
theorem layAll : ∀ xs : List α, PyData.canLayAll0 (xs.map EqOk.pd) = true
  | [] => by simp only [List.map_nil, PyData.canLayAll0]
  | x :: xs => by simp only [List.map_cons, PyData.canLayAll0, EqOk.lay, layAll xs, Bool.and_self]
theorem depAll : ∀ xs : List α, PyData.depthAll (xs.map EqOk.pd) ≤ EqOk.dep α
  | [] => by simp only [List.map_nil, PyData.depthAll]; exact Nat.zero_le _
  | x :: xs => by
    simp only [List.map_cons, PyData.depthAll]
    exact Nat.max_le.mpr ⟨EqOk.hdep x, depAll xs⟩
theorem eqvAll : ∀ xs ys : List α, PyData.eqvAll (xs.map EqOk.pd) (ys.map EqOk.pd) = decide (xs = ys)
  | [], [] => by simp [PyData.eqvAll]
  | [], _ :: _ => by simp [PyData.eqvAll]
  | _ :: _, [] => by simp [PyData.eqvAll]
  | x :: xs, y :: ys => by
    simp only [List.map_cons, PyData.eqvAll, EqOk.eqv, eqvAll xs ys]
    by_cases h : x = y <;> by_cases h' : xs = ys <;> simp [h, h']
instance : EqOk (List α) where
  pd := fun xs => .list (xs.map EqOk.pd)
  dp := fun x v h => by
    obtain ⟨a, vs, rfl, h1, h2⟩ := h
    exact .lst (.of h1) (dpAll x vs h2)
  lay := fun x => by simp only [PyData.canLay0]; exact layAll x
  dep := EqOk.dep α + 1
  hdep := fun x => by simp only [PyData.depth]; exact Nat.succ_le_succ (depAll x)
  eqv := fun x y => by simp only [PyData.eqv]; exact eqvAll x y
instance {β : Type} [Enc β] [DecidableEq β] [EqOk β] : EqOk (α × β) where
  pd := fun x => .tuple [EqOk.pd x.1, EqOk.pd x.2]
  dp := fun x v h => by
    obtain ⟨a, vs, rfl, h1, v1, vs1, rfl, h2, v2, vs2, rfl, h3, rfl⟩ := h
    exact .tup (.of h1) (.cons (EqOk.dp x.1 v1 h2) (.cons (EqOk.dp x.2 v2 h3) .nil))
  lay := fun x => by simp only [PyData.canLay0, PyData.canLayAll0, EqOk.lay, Bool.and_self]
  dep := max (EqOk.dep α) (EqOk.dep β) + 1
  hdep := fun x => by
    simp only [PyData.depth, PyData.depthAll]
    have h1 := EqOk.hdep x.1
    have h2 := EqOk.hdep x.2
    omega
  eqv := fun x y => by
    simp only [PyData.eqv, PyData.eqvAll, EqOk.eqv, Bool.and_true]
    by_cases h : x.1 = y.1 <;> by_cases h' : x.2 = y.2 <;> simp [h, h', Prod.ext_iff]
end
section
variable {p : Pm} {env : List Sl} {ta tb tc te : TE} {α β γ δ : Type} [Enc α] [Enc β] [Enc γ] [Enc δ]
theorem shaped_of [DecidableEq α] [EqOk α] (hd : EqOk.dep α ≤ 64) (x : α) : SeqAt.shaped (EqOk.pd x) = true := by
  unfold SeqAt.shaped
  rw [EqOk.lay x, decide_eq_true (Nat.le_trans (EqOk.hdep x) hd)]
  rfl
theorem ev_eqD [DecidableEq α] [EqOk α] {ma mb : Option α} (ha : Ev p false ta env ma) (hb : Ev p false tb env mb) (hd : EqOk.dep α ≤ 64 := by decide) : Ev p false (tOp (rEqD p.K) ta tb) env (ma.bind fun x => mb.bind fun y => some (decide (x = y))) := ev_op ha hb fun x y => by
  intro z e G H v w s rv rw' Q k
  cases e
  refine ⟨_, _, EqOk.dp x v (Rp.mono s _ rv), EqOk.dp y w (Rp.mono s _ rw'), shaped_of hd x, shaped_of hd y, ?_⟩
  rw [EqOk.eqv]
  exact k _ G H (.refl s) rfl
theorem ev_neD [DecidableEq α] [EqOk α] {ma mb : Option α} (ha : Ev p false ta env ma) (hb : Ev p false tb env mb) (hd : EqOk.dep α ≤ 64 := by decide) : Ev p false (tOp (rNeD p.K) ta tb) env (ma.bind fun x => mb.bind fun y => some (!decide (x = y))) := ev_op ha hb fun x y => by
  intro z e G H v w s rv rw' Q k
  cases e
  refine ⟨_, _, EqOk.dp x v (Rp.mono s _ rv), EqOk.dp y w (Rp.mono s _ rw'), shaped_of hd x, shaped_of hd y, ?_⟩
  rw [EqOk.eqv]
  exact k _ G H (.refl s) rfl
/-- ints, truths -/
class Sc (α : Type) [Enc α] [DecidableEq α] where
  v : α → V
  rp : ∀ {p : Pm} {G : Hp} (x : α) (w : V), Rp p G (enc x) w → w = v x
  inj : ∀ x y, v x = v y ↔ x = y
  scal : ∀ x y, scal (v x) (v y) = true
instance : Sc Int := ⟨.int, fun x w h => h, fun x y => ⟨fun h => by cases h; rfl, fun h => by rw [h]⟩, fun _ _ => rfl⟩
instance : Sc Bool := ⟨.bl, fun x w h => h, fun x y => ⟨fun h => by cases h; rfl, fun h => by rw [h]⟩, fun _ _ => rfl⟩
theorem ev_eqS [DecidableEq α] [Sc α] {ma mb : Option α} (ha : Ev p false ta env ma) (hb : Ev p false tb env mb) : Ev p false (tOp rEq ta tb) env (ma.bind fun x => mb.bind fun y => some (decide (x = y))) := ev_op ha hb fun x y => by
  intro z e G H v w s rv rw' Q k
  cases e
  cases Sc.rp x v rv
  cases Sc.rp y w rw'
  refine ⟨Sc.scal x y, ?_⟩
  have e : decide (Sc.v x = Sc.v y) = decide (x = y) := by
    by_cases h : x = y
    · subst h; simp
    · rw [decide_eq_false h, decide_eq_false fun q => h ((Sc.inj x y).mp q)]
  rw [e]
  exact k _ G H (.refl s) rfl
theorem ev_neS [DecidableEq α] [Sc α] {ma mb : Option α} (ha : Ev p false ta env ma) (hb : Ev p false tb env mb) : Ev p false (tOp rNe ta tb) env (ma.bind fun x => mb.bind fun y => some (!decide (x = y))) := ev_op ha hb fun x y => by
  intro z e G H v w s rv rw' Q k
  cases e
  cases Sc.rp x v rv
  cases Sc.rp y w rw'
  refine ⟨Sc.scal x y, ?_⟩
  have e : decide (Sc.v x = Sc.v y) = decide (x = y) := by
    by_cases h : x = y
    · subst h; simp
    · rw [decide_eq_false h, decide_eq_false fun q => h ((Sc.inj x y).mp q)]
  rw [e]
  exact k _ G H (.refl s) rfl

/-! ### lists of one's own, read where they stand -/
theorem own_ix {i : Nat} {xs : List α} (h : env[i]? = some (.ow (xs.map enc))) (hb : Ev p false tb env (mi : Option Int)) : Ev p false (tOp (rIxL p.K) (tVar i) tb) env (mi.bind fun k => atI xs k) := fun z e G0 H0 σ G H s Q k => by
  obtain ⟨j, e1, e⟩ := bind_some e
  obtain ⟨Fs, f⟩ := s.rs
  obtain ⟨v, a1, ⟨l, vs, rfl, eF, h2⟩, a3, a4⟩ := f.wh i _ h
  have hH : H l = some (.lst vs) := a3 _ _ (by rw [eF]; exact upd_same)
  refine ⟨_, a1, ?_⟩
  refine hb j e1 G0 H0 σ G H s _ fun w G1 H1 g1 r1 => ?_
  cases (show w = .int j from r1)
  obtain ⟨u, h3, h4⟩ := atI_map h2 e
  exact ⟨l, vs, j, u, rfl, rfl, .of (g1.h _ _ hH), h3, k u G1 H1 g1 (Rp.mono g1.g _ h4)⟩
theorem own_len {i : Nat} {xs : List α} (h : env[i]? = some (.ow (xs.map enc))) : Ev p false (tCB (rLenQ p.K) (tCons (tVar i) tNil)) env (some (xs.length : Int)) := fun z e G0 H0 σ G H s Q k => by
  cases e
  obtain ⟨Fs, f⟩ := s.rs
  obtain ⟨v, a1, ⟨l, vs, rfl, eF, h2⟩, a3, a4⟩ := f.wh i _ h
  have hH : H l = some (.lst vs) := a3 _ _ (by rw [eF]; exact upd_same)
  refine ⟨_, a1, l, vs, rfl, .inl (.of hH), ?_⟩
  have hl : xs.length = vs.length := by rw [← h2.length, List.length_map]
  rw [← hl]
  exact k _ G H (.refl s.gr.s) rfl
/-- an operation on the list of one's own as on any list, where the answer doesn't lean on it: found == [], found != [] -/
theorem own_op {nw : Bool} {r : R2} {i : Nat} {xs : List α} {f : List α → β → Option γ} {mb : Option β} (h : env[i]? = some (.ow (xs.map enc))) (hb : Ev p false tb env mb) (hr : ∀ y, RvOp p nw r (enc xs) (enc y) (f xs y))
    (sc : ∀ (z : γ) G v, Rp p G (enc z) v → ∀ G', Rp p G' (enc z) v) (hn : nw = false) : Ev p nw (tOp r (tVar i) tb) env (mb.bind fun y => f xs y) := fun z e G0 H0 σ G H s Q k => by
  subst hn
  obtain ⟨y, e1, e⟩ := bind_some e
  obtain ⟨Fs, f⟩ := s.rs
  obtain ⟨v, a1, ⟨l, vs, rfl, eF, h2⟩, a3, a4⟩ := f.wh i _ h
  have hH : H l = some (.lst vs) := a3 _ _ (by rw [eF]; exact upd_same)
  refine ⟨_, a1, ?_⟩
  refine hb y e1 G0 H0 σ G H s _ fun w G1 H1 g1 r1 => ?_
  have hG1 : G1 l = none := by
    cases q : G1 l with
    | none => rfl
    | some u =>
      have := g1.n l u q (a4 l _ (by rw [eF]; exact upd_same)).1
      rw [hH] at this; cases this
  have n1 := same_new (o := .lst vs) hG1
  have s1 : Same (upd G1 l (.lst vs)) H1 := fun a u q => by
    by_cases c : a = l
    · subst c; rw [upd_same] at q; cases q; exact g1.h _ _ hH
    · rw [upd_ne c] at q; exact g1.s _ _ q
  refine hr y z e (upd G1 l (.lst vs)) H1 (.ref l) w s1 ⟨l, vs, rfl, upd_same, RpA.mono (g1.g.trans n1) _ h2⟩ (Rp.mono n1 _ r1) Q fun u G2 H2 g2 r2 => ?_
  exact k u G1 H2 ⟨g1.g, g1.s.trans g2.h, g1.h.trans g2.h, g1.n⟩ (sc z _ u r2 G1)
theorem own_eqD [DecidableEq α] [EqOk α] {i : Nat} {xs : List α} {mb : Option (List α)} (h : env[i]? = some (.ow (xs.map enc))) (hb : Ev p false tb env mb) (hd : EqOk.dep (List α) ≤ 64 := by decide) : Ev p false (tOp (rEqD p.K) (tVar i) tb) env (mb.bind fun y => some (decide (xs = y))) :=
  own_op (f := fun xs y => some (decide (xs = y))) h hb (fun y => by
    intro z e G H v w s rv rw' Q k
    cases e
    refine ⟨_, _, EqOk.dp xs v (Rp.mono s _ rv), EqOk.dp y w (Rp.mono s _ rw'), shaped_of hd xs, shaped_of hd y, ?_⟩
    rw [EqOk.eqv]
    exact k _ G H (.refl s) rfl) (fun z G v h G' => h) rfl
theorem own_neD [DecidableEq α] [EqOk α] {i : Nat} {xs : List α} {mb : Option (List α)} (h : env[i]? = some (.ow (xs.map enc))) (hb : Ev p false tb env mb) (hd : EqOk.dep (List α) ≤ 64 := by decide) : Ev p false (tOp (rNeD p.K) (tVar i) tb) env (mb.bind fun y => some (!decide (xs = y))) :=
  own_op (f := fun xs y => some (!decide (xs = y))) h hb (fun y => by
    intro z e G H v w s rv rw' Q k
    cases e
    refine ⟨_, _, EqOk.dp xs v (Rp.mono s _ rv), EqOk.dp y w (Rp.mono s _ rw'), shaped_of hd xs, shaped_of hd y, ?_⟩
    rw [EqOk.eqv]
    exact k _ G H (.refl s) rfl) (fun z G v h G' => h) rfl

/-! ### walked things -/
/-- J gives, one behind another, what stands for ds -/
def ItD (p : Pm) (J : It) (G : Hp) (ds : List D) : Prop := ∀ G1 H, Same G G1 → Same G1 H → ∀ i : Nat,
  (∀ d, ds[i]? = some d → J.go i H ∧ ∀ x H', J.yld i H x H' → ∃ G', Gr G1 G' H H' ∧ Rp p G' d x) ∧ (ds.length ≤ i → i = ds.length → J.stop i H)
def EvI (p : Pm) (wi : TI) (env : List Sl) (m : Option (List α)) : Prop :=
  ∀ xs, m = some xs → ∀ G0 H0 σ G H, Sts p G0 H0 env σ G H → ∀ R : It → Hp → Prop, (∀ J G' H', Gr G G' H H' → ItD p J G' (xs.map enc) → R J H') → wi σ H R
theorem itd_list {G : Hp} {a : Addr} {ds : List D} {vs : List V} (h : G a = some (.lst vs)) (r : RpA p G ds vs) : ItD p (Itl p.K a) G ds := fun G1 H s1 s2 i => by
  have hs : SqL p.K H a vs := .of (s2 _ _ (s1 _ _ h))
  refine ⟨fun d e => ?_, fun _ e => ⟨vs, hs, by rw [← r.length, e]; exact Nat.le_refl _⟩⟩
  obtain ⟨v, h1, h2⟩ := r.get e
  refine ⟨⟨vs, v, hs, h1⟩, fun x H' y => ?_⟩
  obtain ⟨rfl, y⟩ := y
  have := y vs hs
  rw [h1] at this; cases this
  exact ⟨G1, .refl s2, Rp.mono s1 _ h2⟩
theorem itd_tup {G : Hp} {a : Addr} {ds : List D} {vs : List V} (h : G a = some (.tup vs)) (r : RpA p G ds vs) : ItD p (Itt p.K a) G ds := fun G1 H s1 s2 i => by
  have hs : SqT p.K H a vs := .of (s2 _ _ (s1 _ _ h))
  refine ⟨fun d e => ?_, fun _ e => ⟨vs, hs, by rw [← r.length, e]; exact Nat.le_refl _⟩⟩
  obtain ⟨v, h1, h2⟩ := r.get e
  refine ⟨⟨vs, v, hs, h1⟩, fun x H' y => ?_⟩
  obtain ⟨rfl, y⟩ := y
  have := y vs hs
  rw [h1] at this; cases this
  exact ⟨G1, .refl s2, Rp.mono s1 _ h2⟩
theorem ei_list {m : Option (List α)} (h : Ev p false te env m) : EvI p (iList p.K te) env m := fun xs e G0 H0 σ G H s R k =>
  h xs e G0 H0 σ G H s _ fun v G1 H1 g1 r1 => by
    obtain ⟨a, vs, rfl, h1, h2⟩ := r1
    exact ⟨a, rfl, ⟨vs, .of (g1.s _ _ h1)⟩, k _ G1 H1 g1 (itd_list h1 h2)⟩
theorem ei_tup {m : Option (Tu α)} (h : Ev p false te env m) : EvI p (iTup p.K te) env (m.bind fun t => some t.xs) := fun xs e G0 H0 σ G H s R k => by
  obtain ⟨t, e1, e⟩ := bind_some e
  cases e
  exact h t e1 G0 H0 σ G H s _ fun v G1 H1 g1 r1 => by
    obtain ⟨a, vs, rfl, h1, h2⟩ := r1
    exact ⟨a, rfl, ⟨vs, .of (g1.s _ _ h1)⟩, k _ G1 H1 g1 (itd_tup h1 h2)⟩
theorem rng_get {a b : Int} {i : Nat} {d : D} (h : ((rng a b).map (enc (α := Int)))[i]? = some d) : i < (b - a).toNat ∧ d = .int (a + i) := by
  unfold rng at h
  rw [List.map_map, List.getElem?_map] at h
  by_cases c : i < (b - a).toNat
  · rw [List.getElem?_range c] at h
    cases h
    exact ⟨c, rfl⟩
  · rw [List.getElem?_eq_none (by simp; omega)] at h
    cases h
theorem rng_len {a b : Int} : (rng a b).length = (b - a).toNat := by unfold rng; simp
theorem itd_rng {G : Hp} {a b : Int} : ItD p (Itr a (b - a).toNat) G ((rng a b).map enc) := fun G1 H s1 s2 i => by
  refine ⟨fun d e => ?_, fun _ e => ?_⟩
  · obtain ⟨h1, rfl⟩ := rng_get e
    refine ⟨h1, fun x H' y => ?_⟩
    obtain ⟨rfl, rfl⟩ := y
    exact ⟨G1, .refl s2, rfl⟩
  · rw [List.length_map, rng_len] at e
    show (b - a).toNat ≤ i
    omega
theorem ei_range1 {mi : Option Int} (h : Ev p false te env mi) : EvI p (iRng1 (tCons te tNil)) env (mi.bind fun n => rng? 0 n) := fun xs e G0 H0 σ G H s R k => by
  obtain ⟨n, e1, e⟩ := bind_some e
  unfold rng? at e
  split at e
  · rename_i c
    cases e
    refine h n e1 G0 H0 σ G H s _ fun v G1 H1 g1 r1 => ?_
    cases (show v = .int n from r1)
    refine ⟨n, rfl, by omega, by omega, k _ G1 H1 g1 ?_⟩
    have q : n.toNat = (n - 0).toNat := by omega
    rw [q]
    exact itd_rng
  · cases e
theorem ei_range2 {mi mj : Option Int} (h : Ev p false ta env mi) (h' : Ev p false tb env mj) : EvI p (iRng2 (tCons ta (tCons tb tNil))) env (mi.bind fun a => mj.bind fun b => rng? a b) := fun xs e G0 H0 σ G H s R k => by
  obtain ⟨a, e1, e⟩ := bind_some e
  obtain ⟨b, e2, e⟩ := bind_some e
  unfold rng? at e
  split at e
  · rename_i c
    cases e
    refine h a e1 G0 H0 σ G H s _ fun v G1 H1 g1 r1 => h' b e2 G0 H0 σ G1 H1 (s.step g1) _ fun w G2 H2 g2 r2 => ?_
    cases (show v = .int a from r1)
    cases (show w = .int b from r2)
    exact ⟨a, b, rfl, ⟨by omega, by omega, by omega, by omega⟩, k _ G2 H2 (g1.trans g2) itd_rng⟩
  · cases e
def enumL (xs : List α) : List (Int × α) := ((List.range xs.length).map fun (i : Nat) => (i : Int)).zip xs
theorem enumL_len (xs : List α) : (enumL xs).length = xs.length := by unfold enumL; simp
theorem enumL_get {xs : List α} {i : Nat} {d : D} (h : ((enumL xs).map enc)[i]? = some d) : ∃ x, xs[i]? = some x ∧ d = .tup [.int i, enc x] := by
  unfold enumL at h
  rw [List.getElem?_map] at h
  cases q : xs[i]? with
  | none =>
    have := List.getElem?_eq_none_iff.mp q
    rw [List.getElem?_eq_none (by simp; omega)] at h
    cases h
  | some x =>
    have hi := (List.getElem?_eq_some_iff.mp q).1
    refine ⟨x, rfl, ?_⟩
    rw [List.getElem?_eq_getElem (by simp; exact hi)] at h
    have hx := (List.getElem?_eq_some_iff.mp q).2
    simp [hx] at h
    exact h.symm
theorem itd_pair {J : It} {n : Nat} {Gp : Hp → Prop} {f g : Nat → Option V} {G : Hp} {ds : List D} (w : Walk J n Gp (YPair f g)) (hn : ds.length = n) (hG : ∀ H, Same G H → Gp H)
    (hd : ∀ (i : Nat) d, ds[i]? = some d → ∃ d1 d2, d = .tup [d1, d2] ∧ ∀ v1 v2, f i = some v1 → g i = some v2 → Rp p G d1 v1 ∧ Rp p G d2 v2) : ItD p J G ds := fun G1 H s1 s2 i => by
  refine ⟨fun d e => ?_, fun _ e => ?_⟩
  · have hi : i < n := by rw [← hn]; exact (List.getElem?_eq_some_iff.mp e).1
    refine ⟨w.goes i H hi (hG H (s1.trans s2)), fun x H' y => ?_⟩
    obtain ⟨T, x1, x2, rfl, h1, rfl, h2, h3⟩ := w.yields i H x H' hi (hG H (s1.trans s2)) y
    obtain ⟨d1, d2, rfl, hr⟩ := hd i d e
    obtain ⟨r1, r2⟩ := hr x1 x2 h2 h3
    have nn := same_new (o := .tup [x1, x2]) (s2.free h1)
    exact ⟨_, .new s2 h1, T, [x1, x2], rfl, upd_same, x1, [x2], rfl, Rp.mono (s1.trans nn) _ r1, x2, [], rfl, Rp.mono (s1.trans nn) _ r2, rfl⟩
  · rw [e, hn]
    exact w.stops H (hG H (s1.trans s2))
theorem ei_enum {m : Option (List α)} (h : Ev p false te env m) : EvI p (iEnum p.K (tCons te tNil)) env (m.bind fun xs => some (enumL xs)) := fun ys e G0 H0 σ G H s R k => by
  obtain ⟨xs, e1, e⟩ := bind_some e
  cases e
  refine h xs e1 G0 H0 σ G H s _ fun v G1 H1 g1 r1 => ?_
  obtain ⟨a, vs, rfl, h1, h2⟩ := r1
  refine ⟨a, vs, rfl, .of (g1.s _ _ h1), k _ G1 H1 g1 (itd_pair (n := vs.length) walk_enum ?_ (fun H s => .of (s _ _ h1)) fun i d q => ?_)⟩
  · rw [List.length_map, enumL_len, ← h2.length, List.length_map]
  · obtain ⟨x, q1, rfl⟩ := enumL_get q
    refine ⟨_, _, rfl, fun v1 v2 e1 e2 => ?_⟩
    cases e1
    obtain ⟨v, q2, q3⟩ := h2.get (i := i) (d := enc x) (by rw [List.getElem?_map, q1]; rfl)
    rw [q2] at e2; cases e2
    exact ⟨rfl, q3⟩
theorem zip_get {xs : List α} {ys : List β} {i : Nat} {d : D} (h : ((xs.zip ys).map enc)[i]? = some d) : ∃ x y, xs[i]? = some x ∧ ys[i]? = some y ∧ d = .tup [enc x, enc y] := by
  rw [List.getElem?_map] at h
  cases q : (xs.zip ys)[i]? with
  | none => rw [q] at h; cases h
  | some z =>
    rw [q] at h
    cases h
    obtain ⟨h1, h2⟩ := List.getElem?_zip_eq_some.mp q
    exact ⟨z.1, z.2, h1, h2, rfl⟩
theorem ei_zip {ma : Option (List α)} {mb : Option (List β)} (ha : Ev p false ta env ma) (hb : Ev p false tb env mb) : EvI p (iZip p.K (tCons ta (tCons tb tNil))) env (ma.bind fun xs => mb.bind fun ys => some (xs.zip ys)) := fun zs e G0 H0 σ G H s R k => by
  obtain ⟨xs, e1, e⟩ := bind_some e
  obtain ⟨ys, e2, e⟩ := bind_some e
  cases e
  refine ha xs e1 G0 H0 σ G H s _ fun v G1 H1 g1 r1 => hb ys e2 G0 H0 σ G1 H1 (s.step g1) _ fun w G2 H2 g2 r2 => ?_
  obtain ⟨a, vs, rfl, h1, h2⟩ := r1
  obtain ⟨b, ws, rfl, h3, h4⟩ := r2
  have h1' := g2.g _ _ h1
  refine ⟨a, b, vs, ws, rfl, .of (g2.s _ _ h1'), .of (g2.s _ _ h3), k _ G2 H2 (g1.trans g2) (itd_pair (walk_zip rfl) ?_ (fun H s => ⟨.of (s _ _ h1'), .of (s _ _ h3)⟩) fun i d q => ?_)⟩
  · have l1 := h2.length
    have l2 := h4.length
    rw [List.length_map] at l1 l2
    rw [List.length_map, List.length_zip, l1, l2]
  · obtain ⟨x, y, q1, q2, rfl⟩ := zip_get q
    refine ⟨_, _, rfl, fun v1 v2 e1 e2 => ?_⟩
    obtain ⟨u, q3, q4⟩ := h2.get (i := i) (d := enc x) (by rw [List.getElem?_map, q1]; rfl)
    obtain ⟨u', q5, q6⟩ := h4.get (i := i) (d := enc y) (by rw [List.getElem?_map, q2]; rfl)
    rw [q3] at e1; cases e1
    rw [q5] at e2; cases e2
    exact ⟨Rp.mono g2.g _ q4, q6⟩

/-! ### targets -/
def Tg (p : Pm) (g : TG) (d : D) (env env' : List Sl) (js : List Nat) : Prop :=
  ∀ G0 H0 σ G H v, Sts p G0 H0 env σ G H → Rp p G d v → ∀ Q : St → Hp → Prop, (∀ σ', Sts p G0 H0 env' σ' G H → (∀ vs : List Nat, (∀ j ∈ js, j ∈ vs) → wipe σ' vs = wipe σ vs) → Q σ' H) → g v σ H Q
theorem wipe_out1 {x : Option V} : ∀ {vs : List Nat} {σ : St} {j : Nat}, j ∈ vs → wipe (σ.set j x) vs = wipe σ vs
  | [], _, _, h => by cases h
  | v :: vs, σ, j, h => by
    unfold wipe
    by_cases c : j ∈ vs
    · rw [wipe_out1 c]
    · have : j = v := by
        rcases List.mem_cons.mp h with e | e
        · exact e
        · exact absurd e c
      subst this
      have comm : ∀ ws : List Nat, j ∉ ws → wipe (σ.set j x) ws = (wipe σ ws).set j x := fun ws => by
        induction ws with
        | nil => intro _; rfl
        | cons w ws ih =>
          intro hn
          unfold wipe
          rw [ih fun q => hn (List.mem_cons_of_mem _ q), List.set_comm]
          intro q
          exact hn (by rw [q]; exact List.mem_cons_self)
      rw [comm vs c, List.set_set]
theorem wipe_wipe (σ : St) : ∀ vs : List Nat, wipe (wipe σ vs) vs = wipe σ vs := fun vs => by
  have gen : ∀ ws : List Nat, (∀ w ∈ ws, w ∈ vs) → wipe (wipe σ ws) vs = wipe σ vs := fun ws => by
    induction ws with
    | nil => intro _; rfl
    | cons w ws ih =>
      intro h
      show wipe ((wipe σ ws).set w none) vs = wipe σ vs
      rw [wipe_out1 (h w List.mem_cons_self), ih fun q hq => h q (List.mem_cons_of_mem _ hq)]
  exact gen vs fun _ h => h
theorem tg_name {j : Nat} {d : D} : Tg p (gName j) d env (env.set j (.va d)) [j] := fun G0 H0 σ G H v s r Q k =>
  k _ (s.set_va r) fun vs h => wipe_out1 (h j (by simp))
def Tgs (p : Pm) (g : TGs) (ds : List D) (env env' : List Sl) (js : List Nat) : Prop :=
  ∀ G0 H0 σ G H vs, Sts p G0 H0 env σ G H → RpA p G ds vs → ∀ Q : St → Hp → Prop, (∀ σ', Sts p G0 H0 env' σ' G H → (∀ vs : List Nat, (∀ j ∈ js, j ∈ vs) → wipe σ' vs = wipe σ vs) → Q σ' H) → g vs σ H Q
theorem tgs_nil : Tgs p gNil [] env env [] := fun G0 H0 σ G H vs s r Q k => ⟨r, k σ s fun _ _ => rfl⟩
theorem tgs_cons {g : TG} {gs : TGs} {d : D} {ds : List D} {e1 e2 : List Sl} {js ks : List Nat} (h : Tg p g d env e1 js) (t : Tgs p gs ds e1 e2 ks) : Tgs p (gCons g gs) (d :: ds) env e2 (js ++ ks) := fun G0 H0 σ G H vs s r Q k => by
  obtain ⟨v, ws, rfl, r1, r2⟩ := r
  refine ⟨v, ws, rfl, h G0 H0 σ G H v s r1 _ fun σ1 s1 w1 => t G0 H0 σ1 G H ws s1 r2 _ fun σ2 s2 w2 => k σ2 s2 fun us hu => ?_⟩
  rw [w2 us fun j hj => hu j (List.mem_append_right _ hj), w1 us fun j hj => hu j (List.mem_append_left _ hj)]
theorem tg_tup {n : Nat} {gs : TGs} {ds : List D} {e2 : List Sl} {js : List Nat} (t : Tgs p gs ds env e2 js) (hn : ds.length = n := by rfl) : Tg p (gTup p.K n gs) (.tup ds) env e2 js := fun G0 H0 σ G H v s r Q k => by
  obtain ⟨a, vs, rfl, h1, h2⟩ := r
  exact ⟨a, vs, rfl, .of (s.gr.s _ _ h1), by rw [← h2.length, hn], t G0 H0 σ G H vs s h2 Q k⟩

/-! ### comprehensions -/
def lcM (c : α → Option Bool) (f : α → Option β) : List α → Option (List β)
  | [] => some []
  | x :: xs => (c x).bind fun b => if b = true then (f x).bind fun y => (lcM c f xs).bind fun ys => some (y :: ys) else lcM c f xs
def lc? (c : α → Option Bool) (f : α → Option β) (xs : List α) : Option (List β) := if xs.length ≤ 100000 then lcM c f xs else none
def wipeE (env : List Sl) : List Nat → List Sl
  | [] => env
  | v :: vs => (wipeE env vs).set v .fr
theorem Sts.wipe1 {G0 H0 G H : Hp} {σ : St} (s : Sts p G0 H0 env σ G H) (j : Nat) : Sts p G0 H0 (env.set j .fr) (σ.set j none) G H := by
  obtain ⟨Fs, f⟩ := s.rs
  refine ⟨s.gr, by simp [s.len], fun i d e => ?_, Fs, fun i r e => ?_, fun i k r r' a o n e e' => ?_⟩
  · rcases set_get e with ⟨_, q, _⟩ | ⟨n, e⟩
    · cases q
    · rw [List.getElem?_set_ne n]; exact s.va i d e
  · rcases set_get e with ⟨_, q, _⟩ | ⟨n, e⟩
    · cases q
    · rw [List.getElem?_set_ne n]; exact f.wh i r e
  · rcases set_get e with ⟨_, q, _⟩ | ⟨_, e⟩
    · cases q
    · rcases set_get e' with ⟨_, q, _⟩ | ⟨_, e'⟩
      · cases q
      · exact f.ap i k r r' a o n e e'
theorem Sts.wipes {G0 H0 G H : Hp} {σ : St} (s : Sts p G0 H0 env σ G H) : ∀ vs : List Nat, Sts p G0 H0 (wipeE env vs) (wipe σ vs) G H
  | [] => s
  | v :: vs => (s.wipes vs).wipe1 v
theorem Gr.mut {G G' H H' : Hp} {q : Addr} {o : HO} (g : Gr G G' H H') (h : H q = none) (k : G' q = none) : Gr G G' H (upd H' q o) :=
  ⟨g.g, fun a u e => by rw [upd_ne (ne_of_none e k)]; exact g.s _ _ e, fun a u e => by rw [upd_ne (ne_of_none e h)]; exact g.h _ _ e, g.n⟩
theorem et_yes : EvT p tYes env (some true) := fun x e G0 H0 σ G H s Q k => by
  cases e
  exact k G H (.refl s.gr.s)
theorem ev_lc {wi : TI} {g : TG} {tt : TT} {vs js : List Nat} {mx : Option (List α)} {c : α → Option Bool} {f : α → Option β} {envI : α → List Sl} (hi : EvI p wi env mx) (hg : ∀ x, Tg p g (enc x) (wipeE env vs) (envI x) js) (hj : ∀ j ∈ js, j ∈ vs)
    (ht : ∀ x, EvT p tt (envI x) (c x)) (he : ∀ x, Ev p false te (envI x) (f x)) : Ev p true (tLc wi g tt te vs) env (mx.bind fun xs => lc? c f xs) := fun z e G0 H0 σ G H s Q k => by
  obtain ⟨xs, e1, e⟩ := bind_some e
  unfold lc? at e
  split at e
  · rename_i hlen
    refine hi xs e1 G0 H0 σ G H s _ fun J G1 H1 g1 it => fun Dl hD => ?_
    have s1 := s.step g1
    have hn0 := g1.s.free hD
    refine ⟨fun i m H' => m = xs.length - i ∧ i ≤ xs.length ∧ ∃ G' acc ys zs, Gr G1 G' H1 H' ∧ G' Dl = none ∧ H' Dl = some (.lst acc) ∧ RpA p G' (ys.map enc) acc ∧ ys.length ≤ i ∧ lcM c f (xs.drop i) = some zs ∧ z = ys ++ zs,
      ⟨_, rfl, Nat.zero_le _, G1, [], [], z, (Gr.refl g1.s).mut hD hn0, hn0, upd_same, show RpA p G1 (([] : List β).map enc) [] from rfl, Nat.le_refl _, e, rfl⟩, ?_⟩
    rintro i m H' ⟨rfl, hle, G', acc, ys, zs, g2, hG, hA, rA, hy, hz, ez⟩
    obtain ⟨go, stop⟩ := it G' H' g2.g g2.s i
    by_cases hlt : i < xs.length
    · have hx : xs[i]? = some xs[i] := by simp [hlt]
      obtain ⟨gi, yi⟩ := go (enc xs[i]) (by rw [List.getElem?_map, hx]; rfl)
      rw [List.drop_eq_getElem_cons hlt] at hz
      obtain ⟨b, hc, hz⟩ := bind_some hz
      refine .inr ⟨gi, fun H'' => ∃ G'' acc ys zs, Gr G1 G'' H1 H'' ∧ G'' Dl = none ∧ H'' Dl = some (.lst acc) ∧ RpA p G'' (ys.map enc) acc ∧ ys.length ≤ i + 1 ∧ lcM c f (xs.drop (i + 1)) = some zs ∧ z = ys ++ zs,
        fun H'' q => ⟨xs.length - (i + 1), by omega, rfl, hlt, q⟩, fun x H2 y => ?_⟩
      obtain ⟨G2, g3, r3⟩ := yi x H2 y
      have g23 := g2.trans g3
      have s2 := (s1.step g23).wipes vs
      have none_of : ∀ {Ga Gb Ha Hb : Hp}, Gr Ga Gb Ha Hb → Ga Dl = none → (∃ o, Ha Dl = some o) → Gb Dl = none := fun {Ga Gb Ha Hb} q h1 ⟨o, h2⟩ => by
        cases w : Gb Dl with
        | none => rfl
        | some u =>
          have := q.n Dl u w h1
          rw [h2] at this; cases this
      have hG2 := none_of g3 hG ⟨_, hA⟩
      have hA2 := g3.h _ _ hA
      refine hg xs[i] G0 H0 (wipe σ vs) G2 H2 x s2 r3 _ fun σ' s3 w3 => ⟨?_, ?_⟩
      · rw [w3 vs hj, wipe_wipe]
      · refine ht xs[i] b hc G0 H0 σ' G2 H2 s3 _ fun G3 H3 g4 => ?_
        have hG3 := none_of g4 hG2 ⟨_, hA2⟩
        have hA3 := g4.h _ _ hA2
        cases b with
        | false => exact ⟨G3, acc, ys, zs, g23.trans g4, hG3, hA3, RpA.mono (g3.g.trans g4.g) _ rA, Nat.le_succ_of_le hy, hz, ez⟩
        | true =>
          obtain ⟨y1, hf, hz⟩ := bind_some hz
          obtain ⟨zs', hzs, hz⟩ := bind_some hz
          cases hz
          refine he xs[i] y1 hf G0 H0 σ' G3 H3 (s3.step g4) _ fun u G4 H4 g5 r5 => ⟨acc, g5.h _ _ hA3, ?_, ?_⟩
          · have l1 := rA.length
            rw [List.length_map] at l1
            exact Nat.lt_of_le_of_lt (show acc.length ≤ 100000 by omega) (by decide)
          · have hG4 := none_of g5 hG3 ⟨_, hA3⟩
            refine ⟨G4, acc ++ [u], ys ++ [y1], zs', ((g23.trans g4).trans g5).mut hD hG4, hG4, upd_same, ?_, by simp; omega, hzs, by simp [ez]⟩
            rw [List.map_append]
            exact (RpA.mono ((g3.g.trans g4.g).trans g5.g) _ rA).append (.cons r5 .nil)
    · have ei : i = xs.length := by omega
      subst ei
      rw [List.drop_length] at hz
      cases hz
      rw [List.append_nil] at ez
      subst ez
      refine .inl ⟨stop (by simp) (by simp), ?_⟩
      exact k _ G' H' (g1.trans g2) ⟨Dl, acc, z.map enc, rfl, rfl, g1.h.free hD, hG, hA, rA⟩
  · cases e

/-! ### calls of defs -/
def spF (p : Pm) (nw : Bool) {ρ : Type} (ea : ρ → List D) (f : ρ → Option γ) : Sp := fun vs H Q _ => ∃ G x z, Same G H ∧ RpA p G (ea x) vs ∧ f x = some z ∧ ∀ v G' H', Gr G G' H H' → Res p nw H G' H' (enc z) v → Q v H'
def sp1 (p : Pm) (nw : Bool) (f : α → Option γ) : Sp := spF p nw (fun x => [enc x]) f
def sp2 (p : Pm) (nw : Bool) (f : α → β → Option γ) : Sp := spF p nw (fun x : α × β => [enc x.1, enc x.2]) fun x => f x.1 x.2
def sp3 (p : Pm) (nw : Bool) (f : α → β → δ → Option γ) : Sp := spF p nw (fun x : α × β × δ => [enc x.1, enc x.2.1, enc x.2.2]) fun x => f x.1 x.2.1 x.2.2
theorem res_back {nw : Bool} {H H1 G' H' : Hp} {d : D} {v : V} (s : Same H H1) (r : Res p nw H1 G' H' d v) : Res p nw H G' H' d v := by
  cases nw with
  | false => exact r
  | true =>
    obtain ⟨l, vs, ds, q1, q2, q3, q4⟩ := r
    exact ⟨l, vs, ds, q1, q2, s.free q3, q4⟩
theorem ev_call1 {nw : Bool} {f : α → Option γ} {E : XK} {ma : Option α} (ha : Ev p false ta env ma) : Ev p nw (tCall (sp1 p nw f) [] E (tCons ta tNil)) env (ma.bind fun x => f x) := fun z e G0 H0 σ G H s Q k => by
  obtain ⟨x, e1, e⟩ := bind_some e
  refine ha x e1 G0 H0 σ G H s _ fun v G1 H1 g1 r1 => ?_
  exact ⟨G1, x, z, g1.s, ⟨v, [], rfl, r1, rfl⟩, e, fun u G2 H2 g2 r2 => k u G2 H2 (g1.trans g2) (res_back g1.h r2)⟩
theorem ev_call2 {nw : Bool} {f : α → β → Option γ} {E : XK} {ma : Option α} {mb : Option β} (ha : Ev p false ta env ma) (hb : Ev p false tb env mb) : Ev p nw (tCall (sp2 p nw f) [] E (tCons ta (tCons tb tNil))) env (ma.bind fun x => mb.bind fun y => f x y) := fun z e G0 H0 σ G H s Q k => by
  obtain ⟨x, e1, e⟩ := bind_some e
  obtain ⟨y, e2, e⟩ := bind_some e
  refine ha x e1 G0 H0 σ G H s _ fun v G1 H1 g1 r1 => hb y e2 G0 H0 σ G1 H1 (s.step g1) _ fun w G2 H2 g2 r2 => ?_
  exact ⟨G2, (x, y), z, g2.s, ⟨v, [w], rfl, Rp.mono g2.g _ r1, w, [], rfl, r2, rfl⟩, e, fun u G3 H3 g3 r3 => k u G3 H3 ((g1.trans g2).trans g3) (res_back (g1.trans g2).h r3)⟩
theorem ev_call3 {nw : Bool} {f : α → β → δ → Option γ} {E : XK} {ma : Option α} {mb : Option β} {mc : Option δ} (ha : Ev p false ta env ma) (hb : Ev p false tb env mb) (hc : Ev p false tc env mc) :
    Ev p nw (tCall (sp3 p nw f) [] E (tCons ta (tCons tb (tCons tc tNil)))) env (ma.bind fun x => mb.bind fun y => mc.bind fun w => f x y w) := fun z e G0 H0 σ G H s Q k => by
  obtain ⟨x, e1, e⟩ := bind_some e
  obtain ⟨y, e2, e⟩ := bind_some e
  obtain ⟨x3, e3, e⟩ := bind_some e
  refine ha x e1 G0 H0 σ G H s _ fun v G1 H1 g1 r1 => hb y e2 G0 H0 σ G1 H1 (s.step g1) _ fun w G2 H2 g2 r2 => hc x3 e3 G0 H0 σ G2 H2 ((s.step g1).step g2) _ fun u G3 H3 g3 r3 => ?_
  exact ⟨G3, (x, y, x3), z, g3.s, ⟨v, [w, u], rfl, Rp.mono (g2.g.trans g3.g) _ r1, w, [u], rfl, Rp.mono g3.g _ r2, u, [], rfl, r3, rfl⟩, e, fun u' G4 H4 g4 r4 => k u' G4 H4 (((g1.trans g2).trans g3).trans g4) (res_back ((g1.trans g2).trans g3).h r4)⟩
end
end PU

set_option Elab.async false
set_option maxRecDepth 100000
set_option linter.all false
/-! PU4: statements, loops, defs. -/
namespace PU
open PySem L2
open Enc

structure Post (ρ : Type) where
  P : ρ → Hp → Hp → Hp → Ends → Prop
  mono : ∀ {r G0 H0 G G1 D}, Same G G1 → P r G0 H0 G D → P r G0 H0 G1 D
/-- the block t does m: whatever m holds, t reaches what is wanted of it -/
def Bk (p : Pm) (t : TS) (env : List Sl) {ρ : Type} (m : Option ρ) (Po : Post ρ) : Prop :=
  ∀ r, m = some r → ∀ G0 H0 σ G H, Sts p G0 H0 env σ G H → ∀ D : Ends, Po.P r G0 H0 G D → t D σ H
/-- it returns -/
def pR (p : Pm) (nw : Bool) (β : Type) [Enc β] : Post β where
  P := fun y G0 H0 _ D => ∀ v G' H', Gr G0 G' H0 H' → Res p nw H0 G' H' (enc y) v → D.rt v H'
  mono := fun _ h => h
/-- it goes on, the slots as told -/
def pN (p : Pm) {s : Type} (envN : s → List Sl) : Post s where
  P := fun x G0 H0 G D => ∀ σ' G' H', Sts p G0 H0 (envN x) σ' G' H' → Same G G' → D.nx σ' H'
  mono := fun e h σ' G' H' s q => h σ' G' H' s (e.trans q)
/-- it ends, whatever the slots -/
def pU : Post Unit where
  P := fun _ G0 H0 _ D => ∀ σ' G' H', Gr G0 G' H0 H' → D.nx σ' H'
  mono := fun _ h => h
inductive Rr (s β : Type) where
  | nx (x : s)
  | rt (y : β)
def Rr.goR {s β : Type} (rest : s → Option β) : Rr s β → Option β
  | .nx x => rest x
  | .rt y => some y
def Rr.goB {s s' β : Type} (rest : s → Option (Rr s' β)) : Rr s β → Option (Rr s' β)
  | .nx x => rest x
  | .rt y => some (.rt y)
/-- the one or the other -/
def pB (p : Pm) (nw : Bool) {s β : Type} [Enc β] (envN : s → List Sl) : Post (Rr s β) where
  P := fun r G0 H0 G D => match r with
    | .nx x => (pN p envN).P x G0 H0 G D
    | .rt y => (pR p nw β).P y G0 H0 G D
  mono := fun {r _ _ _ _ _} e h => match r with
    | .nx _ => (pN p envN).mono e h
    | .rt _ => h
/-- what a value becomes in a slot -/
def sl (nw : Bool) (d : D) : Sl := match nw, d with
  | true, .lst ds => .ow ds
  | _, d => .va d

section
variable {p : Pm} {env env' : List Sl} {ta tb tc te : TE} {t u tz : TS} {α β γ ρ s s' : Type} [Enc α] [Enc β] [Enc γ] {Po : Post ρ}
theorem Sts.set_res {G0 H0 G H G' H' : Hp} {σ : St} {i : Nat} {nw : Bool} {d : D} {v : V} (st : Sts p G0 H0 env σ G H) (g : Gr G G' H H') (r : Res p nw H G' H' d v) : Sts p G0 H0 (env.set i (sl nw d)) (σ.set i (some v)) G' H' := by
  cases nw with
  | false =>
    have e : sl false d = .va d := by unfold sl; cases d <;> rfl
    rw [e]
    exact (st.step g).set_va r
  | true =>
    obtain ⟨l, vs, ds, rfl, rfl, h1, h2, h3, h4⟩ := r
    refine st.set_rs (F := sing l (.lst vs)) g ⟨l, vs, rfl, rfl, h4⟩ (fun a o q => ?_) fun a o q => ?_
    · obtain ⟨rfl, rfl⟩ := sing_iff.mp q
      exact h3
    · obtain ⟨rfl, rfl⟩ := sing_iff.mp q
      exact ⟨h1, h2⟩
theorem k_asg {nw : Bool} {i : Nat} {me : Option α} {rest : α → Option ρ} (h : Ev p nw te env me) (k : ∀ x, Bk p tz (env.set i (sl nw (enc x))) (rest x) Po) : Bk p (tSeq (tAsg te (gName i)) tz) env (me.bind rest) Po := fun r e G0 H0 σ G H st D q => by
  obtain ⟨x, e1, e⟩ := bind_some e
  refine h x e1 G0 H0 σ G H st _ fun v G1 H1 g1 r1 => ?_
  exact k x r e G0 H0 _ G1 H1 (st.set_res g1 r1) D (Po.mono g1.g q)
/-- a, b = x, y -/
theorem k_par {ni nj : Bool} {i j : Nat} {ma : Option α} {mb : Option β} {rest : α → β → Option ρ} (ha : Ev p ni ta env ma) (hb : Ev p nj tb env mb) (k : ∀ x y, Bk p tz ((env.set i (sl ni (enc x))).set j (sl nj (enc y))) (rest x y) Po) :
    Bk p (tSeq (tPar i j (tCons ta (tCons tb tNil))) tz) env (ma.bind fun x => mb.bind fun y => rest x y) Po := fun r e G0 H0 σ G H st D q => by
  obtain ⟨x, e1, e⟩ := bind_some e
  obtain ⟨y, e2, e⟩ := bind_some e
  refine ha x e1 G0 H0 σ G H st _ fun v G1 H1 g1 r1 => hb y e2 G0 H0 σ G1 H1 (st.step g1) _ fun w G2 H2 g2 r2 => ⟨v, w, rfl, ?_⟩
  refine k x y r e G0 H0 _ G2 H2 ?_ D (Po.mono (g1.trans g2).g q)
  have back : Res p ni H G2 H2 (enc x) v := by
    cases ni with
    | false => exact Rp.mono g2.g _ r1
    | true =>
      obtain ⟨l, vs, ds, q1, q2, q3, q4, q5, q6⟩ := r1
      refine ⟨l, vs, ds, q1, q2, q3, ?_, g2.h _ _ q5, RpA.mono g2.g _ q6⟩
      cases z : G2 l with
      | none => rfl
      | some u =>
        have := g2.n l u z q4
        rw [q5] at this; cases this
  have s1 : Sts p G0 H0 (env.set i (sl ni (enc x))) (σ.set i (some v)) G1 H1 := st.set_res g1 r1
  exact s1.set_res g2 r2
/-- the same by a tuple, and unpacked -/
theorem k_tup {i j : Nat} {ma : Option α} {mb : Option β} {rest : α → β → Option ρ} (ha : Ev p false ta env ma) (hb : Ev p false tb env mb) (k : ∀ x y, Bk p tz ((env.set i (.va (enc x))).set j (.va (enc y))) (rest x y) Po) :
    Bk p (tSeq (tAsg (tTup (tCons ta (tCons tb tNil))) (gTup p.K 2 (gCons (gName i) (gCons (gName j) gNil)))) tz) env (ma.bind fun x => mb.bind fun y => rest x y) Po := fun r e G0 H0 σ G H st D q => by
  obtain ⟨x, e1, e⟩ := bind_some e
  obtain ⟨y, e2, e⟩ := bind_some e
  show tTup (tCons ta (tCons tb tNil)) σ H fun x H1 => gTup p.K 2 (gCons (gName i) (gCons (gName j) gNil)) x σ H1 (tz D)
  refine ev_tup2 ha hb (x, y) (by rw [e1, e2]; rfl) G0 H0 σ G H st _ fun v G1 H1 g1 r1 => ?_
  refine tg_tup (tgs_cons tg_name (tgs_cons tg_name tgs_nil)) rfl G0 H0 σ G1 H1 v (st.step g1) r1 _ fun σ' s' _ => ?_
  exact k x y r e G0 H0 σ' G1 H1 s' D (Po.mono g1.g q)
/-- a, b = e -/
theorem k_unp {g : TG} {js : List Nat} {me : Option α} {rest : α → Option ρ} {envK : α → List Sl} (h : Ev p false te env me) (hg : ∀ x, Tg p g (enc x) env (envK x) js) (k : ∀ x, Bk p tz (envK x) (rest x) Po) : Bk p (tSeq (tAsg te g) tz) env (me.bind rest) Po := fun r e G0 H0 σ G H st D q => by
  obtain ⟨x, e1, e⟩ := bind_some e
  refine h x e1 G0 H0 σ G H st _ fun v G1 H1 g1 r1 => ?_
  exact hg x G0 H0 σ G1 H1 v (st.step g1) r1 _ fun σ' s' _ => k x r e G0 H0 σ' G1 H1 s' D (Po.mono g1.g q)
/-- x += e -/
theorem k_aug {i : Nat} {f : Int → Int → Int} {a : Int} {me : Option Int} {rest : Int → Option ρ} (h0 : env[i]? = some (.va (.int a))) (h : Ev p false te env me) (k : ∀ x, Bk p tz (env.set i (.va (.int (f a x)))) (rest (f a x)) Po) : Bk p (tSeq (tAug i te (ipI f)) tz) env (me.bind fun x => rest (f a x)) Po := fun r e G0 H0 σ G H st D q => by
  obtain ⟨x, e1, e⟩ := bind_some e
  obtain ⟨v0, a1, a2⟩ := st.va i _ h0
  refine ⟨v0, a1, h x e1 G0 H0 σ G H st _ fun v G1 H1 g1 r1 => ?_⟩
  cases (show v0 = .int a from a2)
  cases (show v = .int x from r1)
  exact ⟨a, x, rfl, rfl, k x r e G0 H0 _ G1 H1 ((st.step g1).set_va rfl) D (Po.mono g1.g q)⟩
theorem k_drop {me : Option α} {rest : α → Option ρ} (h : Ev p false te env me) (k : ∀ x, Bk p tz env (rest x) Po) : Bk p (tSeq (tDrop te) tz) env (me.bind rest) Po := fun r e G0 H0 σ G H st D q => by
  obtain ⟨x, e1, e⟩ := bind_some e
  exact h x e1 G0 H0 σ G H st _ fun v G1 H1 g1 r1 => k x r e G0 H0 σ G1 H1 (st.step g1) D (Po.mono g1.g q)
theorem k_ret {nw : Bool} {me : Option β} (h : Ev p nw te env me) : Bk p (tRet te) env me (pR p nw β) := fun r e G0 H0 σ G H st D q =>
  h r e G0 H0 σ G H st _ fun v G1 H1 g1 r1 => q v G1 H1 (st.gr.trans g1) (res_back st.gr.h r1)
theorem k_retB {nw : Bool} {envN : s → List Sl} {me : Option β} (h : Ev p nw te env me) : Bk p (tRet te) env (me.bind fun y => some (Rr.rt y)) (pB p nw envN) := fun r e G0 H0 σ G H st D q => by
  obtain ⟨x, e1, e⟩ := bind_some e
  cases e
  exact k_ret h x e1 G0 H0 σ G H st D q
/-- what stands behind a return -/
theorem k_dead {me : Option ρ} (h : Bk p t env me Po) (hi : ∀ r G0 H0 G D D', Po.P r G0 H0 G D → D'.rt = D.rt → Po.P r G0 H0 G D') : Bk p (tSeq t tz) env me Po := fun r e G0 H0 σ G H st D q =>
  h r e G0 H0 σ G H st _ (hi r G0 H0 G D _ q rfl)
/-- the block's end -/
theorem k_end {envN : s → List Sl} {x : s} (h : leE env (envN x)) : Bk p tNext env (some x) (pN p envN) := fun r e G0 H0 σ G H st D q => by
  cases e
  exact q σ G H (st.le h) (.refl G)
theorem k_endB {nw : Bool} {envN : s → List Sl} {x : s} (h : leE env (envN x)) : Bk p tNext env (some (Rr.nx (β := β) x)) (pB p nw envN) := fun r e G0 H0 σ G H st D q => by
  cases e
  exact q σ G H (st.le h) (.refl G)
theorem k_endU : Bk p tNext env (some ()) pU := fun r e G0 H0 σ G H st D q => q σ G H st.gr
theorem k_never : Bk p tNever env (none : Option ρ) Po := fun r e => nomatch e
theorem k_seqNever : Bk p (tSeq tNever tz) env (none : Option ρ) Po := fun r e => nomatch e
theorem k_le (h : leE env env') {m : Option ρ} (k : Bk p t env' m Po) : Bk p t env m Po := fun r e G0 H0 σ G H st D q => k r e G0 H0 σ G H (st.le h) D q
/-- the list in slot i is no more changed -/
theorem k_freeze {i : Nat} {ds : List D} {m : Option ρ} (h : env[i]? = some (.ow ds)) (k : Bk p t (env.set i (.va (.lst ds))) m Po) : Bk p t env m Po := fun r e G0 H0 σ G H st D q =>
  st.freeze h fun G' sg s' => k r e G0 H0 σ G' H s' D (Po.mono sg q)
theorem k_if {tt : TT} {mc : Option Bool} {ma mb : Option ρ} (h : EvT p tt env mc) (h1 : Bk p t env ma Po) (h2 : Bk p u env mb Po) : Bk p (tIfS tt t u) env (mc.bind fun c => if c = true then ma else mb) Po := fun r e G0 H0 σ G H st D q => by
  obtain ⟨c, e1, e⟩ := bind_some e
  refine h c e1 G0 H0 σ G H st _ fun G1 H1 g1 => ?_
  cases c with
  | true => exact h1 r e G0 H0 σ G1 H1 (st.step g1) D (Po.mono g1.g q)
  | false => exact h2 r e G0 H0 σ G1 H1 (st.step g1) D (Po.mono g1.g q)
/-- an if whose first way returns (or is never gone), and what follows -/
theorem k_ifR {nw : Bool} {tt : TT} {mc : Option Bool} {ma mb : Option β} (h : EvT p tt env mc) (h1 : Bk p t env ma (pR p nw β)) (h2 : Bk p tz env mb (pR p nw β)) : Bk p (tSeq (tIfS tt t tNext) tz) env (mc.bind fun c => if c = true then ma else mb) (pR p nw β) := fun r e G0 H0 σ G H st D q => by
  obtain ⟨c, e1, e⟩ := bind_some e
  refine h c e1 G0 H0 σ G H st _ fun G1 H1 g1 => ?_
  cases c with
  | true => exact h1 r e G0 H0 σ G1 H1 (st.step g1) _ q
  | false => exact h2 r e G0 H0 σ G1 H1 (st.step g1) D q
theorem k_ifB {nw : Bool} {envN : s → List Sl} {tt : TT} {mc : Option Bool} {ma : Option β} {mb : Option (Rr s β)} (h : EvT p tt env mc) (h1 : Bk p t env ma (pR p nw β)) (h2 : Bk p tz env mb (pB p nw envN)) :
    Bk p (tSeq (tIfS tt t tNext) tz) env (mc.bind fun c => if c = true then ma.bind (fun y => some (Rr.rt y)) else mb) (pB p nw envN) := fun r e G0 H0 σ G H st D q => by
  obtain ⟨c, e1, e⟩ := bind_some e
  refine h c e1 G0 H0 σ G H st _ fun G1 H1 g1 => ?_
  cases c with
  | true =>
    obtain ⟨y, e2, e⟩ := bind_some e
    cases e
    exact h1 y e2 G0 H0 σ G1 H1 (st.step g1) _ q
  | false => exact h2 r e G0 H0 σ G1 H1 (st.step g1) D ((pB p nw envN).mono g1.g q)
/-- an if that raises, and what follows -/
theorem k_ifX {tt : TT} {mc : Option Bool} {mb : Option ρ} (h : EvT p tt env mc) (h2 : Bk p tz env mb Po) : Bk p (tSeq (tIfS tt t tNext) tz) env (mc.bind fun c => if c = true then none else mb) Po := fun r e G0 H0 σ G H st D q => by
  obtain ⟨c, e1, e⟩ := bind_some e
  refine h c e1 G0 H0 σ G H st _ fun G1 H1 g1 => ?_
  cases c with
  | true => cases e
  | false => exact h2 r e G0 H0 σ G1 H1 (st.step g1) D (Po.mono g1.g q)
/-- one behind another -/
theorem k_seq {envN : s → List Sl} {m1 : Option s} {rest : s → Option ρ} (h1 : Bk p t env m1 (pN p envN)) (h2 : ∀ x, Bk p tz (envN x) (rest x) Po) : Bk p (tSeq t tz) env (m1.bind rest) Po := fun r e G0 H0 σ G H st D q => by
  obtain ⟨x, e1, e⟩ := bind_some e
  exact h1 x e1 G0 H0 σ G H st _ fun σ' G' H' s' sg => h2 x r e G0 H0 σ' G' H' s' D (Po.mono sg q)
theorem k_seqR {nw : Bool} {envN : s → List Sl} {m1 : Option (Rr s β)} {rest : s → Option β} (h1 : Bk p t env m1 (pB p nw envN)) (h2 : ∀ x, Bk p tz (envN x) (rest x) (pR p nw β)) :
    Bk p (tSeq t tz) env (m1.bind (Rr.goR rest)) (pR p nw β) := fun r e G0 H0 σ G H st D q => by
  obtain ⟨x, e1, e⟩ := bind_some e
  cases x with
  | nx x => exact h1 (.nx x) e1 G0 H0 σ G H st _ fun σ' G' H' s' sg => h2 x r e G0 H0 σ' G' H' s' D q
  | rt z =>
    have ez : z = r := Option.some.inj e
    subst ez
    exact h1 (.rt z) e1 G0 H0 σ G H st _ q
theorem k_seqB {nw : Bool} {envN : s → List Sl} {envM : s' → List Sl} {m1 : Option (Rr s β)} {rest : s → Option (Rr s' β)} (h1 : Bk p t env m1 (pB p nw envN)) (h2 : ∀ x, Bk p tz (envN x) (rest x) (pB p nw envM)) :
    Bk p (tSeq t tz) env (m1.bind (Rr.goB rest)) (pB p nw envM) := fun r e G0 H0 σ G H st D q => by
  obtain ⟨x, e1, e⟩ := bind_some e
  cases x with
  | nx x => exact h1 (.nx x) e1 G0 H0 σ G H st _ fun σ' G' H' s' sg => h2 x r e G0 H0 σ' G' H' s' D ((pB p nw envM).mono sg q)
  | rt y =>
    cases e
    exact h1 (.rt y) e1 G0 H0 σ G H st _ q

/-! ### loops -/
def forS (f : s → α → Option s) : s → List α → Option s
  | x, [] => some x
  | x, a :: as => (f x a).bind fun y => forS f y as
def forB {β : Type} (f : s → α → Option (Rr s β)) : s → List α → Option (Rr s β)
  | x, [] => some (.nx x)
  | x, a :: as => (f x a).bind fun r => match r with
    | .nx y => forB f y as
    | .rt y => some (.rt y)
theorem k_for {wi : TI} {g : TG} {js : List Nat} {mx : Option (List α)} {f : s → α → Option s} {envS : s → List Sl} {envB : s → α → List Sl} {x0 : s} (hi : EvI p wi env mx) (h0 : leE env (envS x0)) (hg : ∀ x a, Tg p g (enc a) (envS x) (envB x a) js)
    (hb : ∀ x a, Bk p t (envB x a) (f x a) (pN p envS)) : Bk p (tFor wi g t) env (mx.bind fun xs => forS f x0 xs) (pN p envS) := fun r e G0 H0 σ G H st D q => by
  obtain ⟨xs, e1, e⟩ := bind_some e
  refine hi xs e1 G0 H0 σ G H st _ fun J G1 H1 g1 it => ?_
  refine ⟨fun i m σ' H' => m = xs.length - i ∧ i ≤ xs.length ∧ ∃ x G', forS f x (xs.drop i) = some r ∧ Sts p G0 H0 (envS x) σ' G' H' ∧ Same G1 G', ⟨_, rfl, Nat.zero_le _, x0, G1, e, (st.step g1).le h0, .refl _⟩, ?_⟩
  rintro i m σ' H' ⟨rfl, hle, x, G', hf, s', sg⟩
  obtain ⟨go, stop⟩ := it G' H' sg s'.gr.s i
  by_cases hlt : i < xs.length
  · have hx : xs[i]? = some xs[i] := by simp [hlt]
    obtain ⟨gi, yi⟩ := go (enc xs[i]) (by rw [List.getElem?_map, hx]; rfl)
    rw [List.drop_eq_getElem_cons hlt] at hf
    obtain ⟨y, hy, hf⟩ := bind_some hf
    refine .inr ⟨gi, fun σ2 H2 => ∃ x G', forS f x (xs.drop (i + 1)) = some r ∧ Sts p G0 H0 (envS x) σ2 G' H2 ∧ Same G1 G', fun σ2 H2 z => ⟨xs.length - (i + 1), by omega, rfl, hlt, z⟩, fun v H2 yv => ?_⟩
    obtain ⟨G2, g3, r3⟩ := yi v H2 yv
    refine hg x xs[i] G0 H0 σ' G2 H2 v (s'.step g3) r3 _ fun σ3 s3 _ => ?_
    have fin : ∀ σ4 G4 H4, Sts p G0 H0 (envS y) σ4 G4 H4 → Same G2 G4 → ∃ x G', forS f x (xs.drop (i + 1)) = some r ∧ Sts p G0 H0 (envS x) σ4 G' H4 ∧ Same G1 G' := fun σ4 G4 H4 s4 sg4 => ⟨y, G4, hf, s4, (sg.trans g3.g).trans sg4⟩
    exact hb x xs[i] y hy G0 H0 σ3 G2 H2 s3 _ fin
  · have ei : i = xs.length := by omega
    subst ei
    rw [List.drop_length] at hf
    cases hf
    exact .inl ⟨stop (by simp) (by simp), q σ' G' H' s' (g1.g.trans sg)⟩
theorem k_forB {nw : Bool} {wi : TI} {g : TG} {js : List Nat} {mx : Option (List α)} {f : s → α → Option (Rr s β)} {envS : s → List Sl} {envB : s → α → List Sl} {x0 : s} (hi : EvI p wi env mx) (h0 : leE env (envS x0)) (hg : ∀ x a, Tg p g (enc a) (envS x) (envB x a) js)
    (hb : ∀ x a, Bk p t (envB x a) (f x a) (pB p nw envS)) : Bk p (tFor wi g t) env (mx.bind fun xs => forB f x0 xs) (pB p nw envS) := fun r e G0 H0 σ G H st D q => by
  obtain ⟨xs, e1, e⟩ := bind_some e
  refine hi xs e1 G0 H0 σ G H st _ fun J G1 H1 g1 it => ?_
  refine ⟨fun i m σ' H' => m = xs.length - i ∧ i ≤ xs.length ∧ ∃ x G', forB f x (xs.drop i) = some r ∧ Sts p G0 H0 (envS x) σ' G' H' ∧ Same G1 G', ⟨_, rfl, Nat.zero_le _, x0, G1, e, (st.step g1).le h0, .refl _⟩, ?_⟩
  rintro i m σ' H' ⟨rfl, hle, x, G', hf, s', sg⟩
  obtain ⟨go, stop⟩ := it G' H' sg s'.gr.s i
  by_cases hlt : i < xs.length
  · have hx : xs[i]? = some xs[i] := by simp [hlt]
    obtain ⟨gi, yi⟩ := go (enc xs[i]) (by rw [List.getElem?_map, hx]; rfl)
    rw [List.drop_eq_getElem_cons hlt] at hf
    obtain ⟨y, hy, hf⟩ := bind_some hf
    refine .inr ⟨gi, fun σ2 H2 => ∃ x G', forB f x (xs.drop (i + 1)) = some r ∧ Sts p G0 H0 (envS x) σ2 G' H2 ∧ Same G1 G', fun σ2 H2 z => ⟨xs.length - (i + 1), by omega, rfl, hlt, z⟩, fun v H2 yv => ?_⟩
    obtain ⟨G2, g3, r3⟩ := yi v H2 yv
    refine hg x xs[i] G0 H0 σ' G2 H2 v (s'.step g3) r3 _ fun σ3 s3 _ => ?_
    refine hb x xs[i] y hy G0 H0 σ3 G2 H2 s3 _ ?_
    cases y with
    | nx y => exact fun σ4 G4 H4 s4 sg4 => ⟨y, G4, hf, s4, (sg.trans g3.g).trans sg4⟩
    | rt y =>
      cases hf
      exact q
  · have ei : i = xs.length := by omega
    subst ei
    rw [List.drop_length] at hf
    cases hf
    exact .inl ⟨stop (by simp) (by simp), q σ' G' H' s' (g1.g.trans sg)⟩
/-- a while that goes at most n times -/
def whS (c : s → Option Bool) (f : s → Option s) : Nat → s → Option s
  | 0, _ => none
  | n + 1, x => (c x).bind fun b => if b = true then (f x).bind fun y => whS c f n y else some x
theorem k_while {tt : TT} {c : s → Option Bool} {f : s → Option s} {envS : s → List Sl} {n : Nat} {x0 : s} (h0 : leE env (envS x0)) (hc : ∀ x, EvT p tt (envS x) (c x)) (hb : ∀ x, Bk p t (envS x) (f x) (pN p envS)) : Bk p (tWhile tt t) env (whS c f n x0) (pN p envS) := fun r e G0 H0 σ G H st D q => by
  refine ⟨fun m σ' H' => ∃ x G', whS c f m x = some r ∧ Sts p G0 H0 (envS x) σ' G' H' ∧ Same G G', ⟨n, x0, G, e, st.le h0, .refl _⟩, ?_⟩
  rintro m σ' H' ⟨x, G', hf, s', sg⟩
  cases m with
  | zero => cases hf
  | succ m =>
    obtain ⟨b, e1, hf⟩ := bind_some hf
    refine hc x b e1 G0 H0 σ' G' H' s' _ fun G1 H1 g1 => ?_
    cases b with
    | false =>
      cases hf
      exact q σ' G1 H1 (s'.step g1) (sg.trans g1.g)
    | true =>
      obtain ⟨y, e2, hf⟩ := bind_some hf
      show ∃ N : St → Hp → Prop, _
      refine ⟨fun σ2 H2 => ∃ x G', whS c f m x = some r ∧ Sts p G0 H0 (envS x) σ2 G' H2 ∧ Same G G', fun σ2 H2 z => ⟨m, Nat.lt_succ_self m, z⟩, ?_⟩
      have fin : ∀ σ4 G4 H4, Sts p G0 H0 (envS y) σ4 G4 H4 → Same G1 G4 → ∃ x G', whS c f m x = some r ∧ Sts p G0 H0 (envS x) σ4 G' H4 ∧ Same G G' := fun σ4 G4 H4 s4 sg4 => ⟨y, G4, hf, s4, (sg.trans g1.g).trans sg4⟩
      exact hb x y e2 G0 H0 σ' G1 H1 (s'.step g1) _ fin

/-! ### lists of one's own, changed -/
/-- the list in slot i is changed into ys -/
theorem Sts.put {G0 H0 G H : Hp} {σ : St} {i : Nat} {ds : List D} {Q : Prop} (st : Sts p G0 H0 env σ G H) (h : env[i]? = some (.ow ds))
    (k : ∀ l vs, σ[i]? = some (some (.ref l)) → H l = some (.lst vs) → RpA p G ds vs → G l = none → (∀ es ws, RpA p G es ws → Sts p G0 H0 (env.set i (.ow es)) σ G (upd H l (.lst ws))) → Q) : Q := by
  refine st.write h fun v F a1 a2 a3 a4 a5 => ?_
  obtain ⟨l, vs, rfl, rfl, h2⟩ := a2
  have hH : H l = some (.lst vs) := a3 _ _ upd_same
  refine k l vs a1 hH h2 (a4 l _ upd_same).1 fun es ws r => ?_
  have e : σ = σ.set i (some (.ref l)) := by
    have hi := (List.getElem?_eq_some_iff.mp a1)
    obtain ⟨hi, he⟩ := hi
    rw [← he, List.set_getElem_self]
  rw [e]
  refine a5 (own es) (.ref l) (sing l (.lst ws)) _ ⟨fun a o q => ?_, fun a q1 q2 => ?_, fun a o q1 q2 => ?_⟩ ⟨l, ws, rfl, rfl, r⟩
  · obtain ⟨rfl, rfl⟩ := sing_iff.mp q
    exact upd_same
  · have : a ≠ l := fun c => by
      subst c
      have z : sing a (HO.lst vs) a = none := q1
      rw [show sing a (HO.lst vs) a = some (.lst vs) from upd_same] at z; cases z
    exact upd_ne this
  · obtain ⟨rfl, rfl⟩ := sing_iff.mp q1
    rw [show sing a (HO.lst vs) a = some (.lst vs) from upd_same] at q2; cases q2
def app? (xs : List α) (x : α) : Option (List α) := if xs.length < 100000 then some (xs ++ [x]) else none
theorem k_app {i : Nat} {xs : List α} {me : Option α} {rest : List α → Option ρ} (h : env[i]? = some (.ow (xs.map enc))) (he : Ev p false te env me) (k : ∀ ys, Bk p tz (env.set i (.ow (ys.map enc))) (rest ys) Po) :
    Bk p (tSeq (tDrop (tBM p.K "list" rAppend (tVar i) (tCons te tNil))) tz) env (me.bind fun x => (app? xs x).bind rest) Po := fun r e G0 H0 σ G H st D q => by
  obtain ⟨x, e1, e⟩ := bind_some e
  obtain ⟨ys, e2, e⟩ := bind_some e
  unfold app? at e2
  split at e2
  · rename_i hl
    cases e2
    obtain ⟨Fs, f⟩ := st.rs
    obtain ⟨v, a1, ⟨l0, vs0, rfl, eF, h2⟩, a3, a4⟩ := f.wh i _ h
    refine ⟨.ref l0, a1, .inl ⟨rfl, _, .of (a3 _ _ (by rw [eF]; exact upd_same))⟩, ?_⟩
    refine he x e1 G0 H0 σ G H st _ fun u G1 H1 g1 r1 => ?_
    refine (st.step g1).put h fun l vs b1 b2 b3 _ b4 => ?_
    rw [a1] at b1; cases b1
    have l1 := b3.length
    rw [List.length_map] at l1
    refine ⟨l0, vs, u, rfl, rfl, b2, Nat.lt_of_le_of_lt (show vs.length ≤ 100000 by omega) (by decide), ?_⟩
    refine k (xs ++ [x]) r e G0 H0 σ G1 _ ?_ D (Po.mono g1.g q)
    rw [List.map_append]
    exact b4 _ _ (b3.append (.cons r1 .nil))
  · cases e2
/-- found.insert(i, x), i not below 0 -/
def insL (xs : List α) (i : Nat) (x : α) : List α := xs.take i ++ [x] ++ xs.drop i
def ins? (xs : List α) (i : Int) (x : α) : Option (List α) := if xs.length < 100000 ∧ 0 ≤ i ∧ i < 2 ^ 62 then some (insL xs i.toNat x) else none
def rIns : V → List V → Hp → VK → Prop := fun x vs H Q => ∃ (l : Addr) (xs : List V) (i : Int) (y : V), x = .ref l ∧ vs = [.int i, y] ∧ H l = some (.lst xs) ∧ xs.length < sizeLine ∧ 0 ≤ i ∧ i < 2 ^ 63 ∧
    Q .non (upd H l (.lst (xs.take i.toNat ++ [y] ++ xs.drop i.toNat)))
theorem k_ins {i : Nat} {xs : List α} {mi : Option Int} {me : Option α} {rest : List α → Option ρ} (h : env[i]? = some (.ow (xs.map enc))) (ha : Ev p false ta env mi) (he : Ev p false te env me) (k : ∀ ys, Bk p tz (env.set i (.ow (ys.map enc))) (rest ys) Po) :
    Bk p (tSeq (tDrop (tBM p.K "list" rIns (tVar i) (tCons ta (tCons te tNil)))) tz) env (mi.bind fun j => me.bind fun x => (ins? xs j x).bind rest) Po := fun r e G0 H0 σ G H st D q => by
  obtain ⟨j, e0, e⟩ := bind_some e
  obtain ⟨x, e1, e⟩ := bind_some e
  obtain ⟨ys, e2, e⟩ := bind_some e
  unfold ins? at e2
  split at e2
  · rename_i hl
    cases e2
    obtain ⟨Fs, f⟩ := st.rs
    obtain ⟨v, a1, ⟨l0, vs0, rfl, eF, h2⟩, a3, a4⟩ := f.wh i _ h
    refine ⟨.ref l0, a1, .inl ⟨rfl, _, .of (a3 _ _ (by rw [eF]; exact upd_same))⟩, ?_⟩
    refine ha j e0 G0 H0 σ G H st _ fun w G1 H1 g1 r1 => he x e1 G0 H0 σ G1 H1 (st.step g1) _ fun u G2 H2 g2 r2 => ?_
    cases (show w = .int j from r1)
    refine ((st.step g1).step g2).put h fun l vs b1 b2 b3 _ b4 => ?_
    rw [a1] at b1; cases b1
    have l1 := b3.length
    rw [List.length_map] at l1
    refine ⟨l0, vs, j, u, rfl, rfl, b2, Nat.lt_of_le_of_lt (show vs.length ≤ 100000 by omega) (by decide), hl.2.1, by omega, ?_⟩
    refine k (insL xs j.toNat x) r e G0 H0 σ G2 _ ?_ D (Po.mono (g1.trans g2).g q)
    unfold insL
    rw [List.map_append, List.map_append, List.map_take, List.map_drop]
    exact b4 _ _ (((b3.take _).append (.cons r2 .nil)).append (b3.drop _))
  · cases e2
/-- found[j] = x -/
def seti? (xs : List α) (i : Int) (x : α) : Option (List α) := (ixN xs.length i).map fun j => xs.set j x
theorem k_seti {i : Nat} {xs : List α} {mi : Option Int} {me : Option α} {rest : List α → Option ρ} (h : env[i]? = some (.ow (xs.map enc))) (he : Ev p false te env me) (ha : Ev p false ta env mi) (k : ∀ ys, Bk p tz (env.set i (.ow (ys.map enc))) (rest ys) Po) :
    Bk p (tSeq (tAsg te (gSub (tVar i) ta rSetL)) tz) env (me.bind fun x => mi.bind fun j => (seti? xs j x).bind rest) Po := fun r e G0 H0 σ G H st D q => by
  obtain ⟨x, e1, e⟩ := bind_some e
  obtain ⟨j, e0, e⟩ := bind_some e
  obtain ⟨ys, e2, e⟩ := bind_some e
  unfold seti? at e2
  cases hj : ixN xs.length j with
  | none => rw [hj] at e2; cases e2
  | some n =>
    rw [hj] at e2
    cases e2
    obtain ⟨Fs, f⟩ := st.rs
    obtain ⟨v, a1, ⟨l0, vs0, rfl, eF, h2⟩, a3, a4⟩ := f.wh i _ h
    refine he x e1 G0 H0 σ G H st _ fun u G1 H1 g1 r1 => ⟨.ref l0, a1, ?_⟩
    refine ha j e0 G0 H0 σ G1 H1 (st.step g1) _ fun w G2 H2 g2 r2 => ?_
    cases (show w = .int j from r2)
    refine ((st.step g1).step g2).put h fun l vs b1 b2 b3 _ b4 => ?_
    rw [a1] at b1; cases b1
    have l1 := b3.length
    rw [List.length_map] at l1
    refine ⟨l0, vs, j, n, rfl, rfl, b2, by rw [← l1]; exact hj, ?_⟩
    refine k (xs.set n x) r e G0 H0 σ G2 _ ?_ D (Po.mono (g1.trans g2).g q)
    rw [List.map_set]
    exact b4 _ _ (b3.set n (Rp.mono g2.g _ r1))

/-! ### defs -/
theorem sts_start {N : List Str} {G H : Hp} {ds : List D} {vs : List V} {n : Nat} (s : Same G H) (r : RpA p G ds vs) (hn : N.length = ds.length + n) : Sts p G H (ds.map Sl.va ++ List.replicate n .fr) (L2.start N vs) G H := by
  have hl := r.length
  refine ⟨.refl s, ?_, fun i d e => ?_, fun _ => nil, fun i r' e => ?_, fun i j r1 r2 a o _ e => ?_⟩
  · unfold L2.start
    simp
    omega
  · by_cases c : i < ds.length
    · rw [List.getElem?_append_left (by simpa using c), List.getElem?_map] at e
      cases q : ds[i]? with
      | none => rw [q] at e; cases e
      | some d' =>
        rw [q] at e
        cases e
        obtain ⟨v, h1, h2⟩ := r.get q
        refine ⟨v, ?_, h2⟩
        unfold L2.start
        rw [List.getElem?_append_left (by simp; omega), List.getElem?_map, h1]
        rfl
    · rw [List.getElem?_append_right (by simp; omega), List.getElem?_replicate] at e
      split at e <;> cases e
  · by_cases c : i < ds.length
    · rw [List.getElem?_append_left (by simpa using c), List.getElem?_map] at e
      cases q : ds[i]? with
      | none => rw [q] at e; cases e
      | some d' => rw [q] at e; cases e
    · rw [List.getElem?_append_right (by simp; omega), List.getElem?_replicate] at e
      split at e <;> cases e
  · by_cases c : i < ds.length
    · rw [List.getElem?_append_left (by simpa using c), List.getElem?_map] at e
      cases q : ds[i]? with
      | none => rw [q] at e; cases e
      | some d' => rw [q] at e; cases e
    · rw [List.getElem?_append_right (by simp; omega), List.getElem?_replicate] at e
      split at e <;> cases e
variable {P : Program} {w : World} {mg : Str → Option Value} {base : Heap}
/-- a def of a text: its body does what f tells -/
theorem def_ok {τ : Type} {nw : Bool} {ea : τ → List D} {f : τ → Option γ} {x qual : Str} {stm : Stmt} {fa : Addr} {fd : FuncData} {N ps : List Str} {k n : Nat} (F : Fun p.K x qual stm fa fd) (S : FnScope N ps (defScope stm)) (hps : ∀ a, (ea a).length = ps.length) (hN : N.length = ps.length + n)
    (body : ∀ (cdv : Value) (A : Around) (outer : List Env) (s : Shared) (H : Hp) (E : XK), Room k (A.deeper (PyProof.Rows.envOfC qual (defScope stm) s.heap.objs.size fa cdv)) →
      ∃ t, PSs (cxOf CX0 P w p.K mg base N qual (defScope stm) fa cdv A outer s H E).nox (defBody stm) t ∧ ∀ a, Bk p t ((ea a).map Sl.va ++ List.replicate n .fr) (f a) (pR p nw γ)) : FnOk P w p.K mg base CX0 (k + 1) fa fd ps (spF p nw ea f) := by
  refine F.ok S (fun vs H Q E h => ?_) fun cdv A outer s H vs Q E hr h => ?_
  · obtain ⟨G, a, z, _, r, _⟩ := h
    rw [← r.length, hps]
  · obtain ⟨G, a, z, sg, r, e, q⟩ := h
    obtain ⟨t, h1, h2⟩ := body cdv A outer s H E hr
    exact ⟨t, h1, h2 a z e G H _ G H (sts_start sg r (by rw [hN, hps])) _ q⟩
/-- a def that ends without a return -/
theorem def_okU {τ : Type} {ea : τ → List D} {f : τ → Option Unit} {x qual : Str} {stm : Stmt} {fa : Addr} {fd : FuncData} {N ps : List Str} {k n : Nat} (F : Fun p.K x qual stm fa fd) (S : FnScope N ps (defScope stm)) (hps : ∀ a, (ea a).length = ps.length) (hN : N.length = ps.length + n)
    (body : ∀ (cdv : Value) (A : Around) (outer : List Env) (s : Shared) (H : Hp) (E : XK), Room k (A.deeper (PyProof.Rows.envOfC qual (defScope stm) s.heap.objs.size fa cdv)) →
      ∃ t, PSs (cxOf CX0 P w p.K mg base N qual (defScope stm) fa cdv A outer s H E).nox (defBody stm) t ∧ ∀ a, Bk p t ((ea a).map Sl.va ++ List.replicate n .fr) (f a) pU) : FnOk P w p.K mg base CX0 (k + 1) fa fd ps (spF p false ea f) := by
  refine F.ok S (fun vs H Q E h => ?_) fun cdv A outer s H vs Q E hr h => ?_
  · obtain ⟨G, a, z, _, r, _⟩ := h
    rw [← r.length, hps]
  · obtain ⟨G, a, z, sg, r, e, q⟩ := h
    obtain ⟨t, h1, h2⟩ := body cdv A outer s H E hr
    exact ⟨t, h1, h2 a z e G H _ G H (sts_start sg r (by rw [hN, hps])) _ fun σ' G' H' g => q .non G' H' g rfl⟩
end
end PU

set_option Elab.async false
set_option maxRecDepth 100000
set_option linter.all false
/-! PU5: what the top has; calls by name; isinstance. -/
namespace PU
open PySem L2
open Enc

/-- the built-ins are not hidden -/
structure Blt (mg : Str → Option Value) : Prop where
  len : mg "len" = none
  sum : mg "sum" = none
  max : mg "max" = none
  min : mg "min" = none
  all : mg "all" = none
  any : mg "any" = none
  sorted : mg "sorted" = none
  list : mg "list" = none
  range : mg "range" = none
  enumerate : mg "enumerate" = none
  zip : mg "zip" = none
  isinstance : mg "isinstance" = none
  int : mg "int" = none
  bool : mg "bool" = none
  abs : mg "abs" = none
  set : mg "set" = none
  tuple : mg "tuple" = none
theorem bs_len : bootBuiltins "len" = some (.builtin "len") := by decide +kernel
theorem bs_sum : bootBuiltins "sum" = some (.builtin "sum") := by decide +kernel
theorem bs_max : bootBuiltins "max" = some (.builtin "max") := by decide +kernel
theorem bs_min : bootBuiltins "min" = some (.builtin "min") := by decide +kernel
theorem bs_all : bootBuiltins "all" = some (.builtin "all") := by decide +kernel
theorem bs_any : bootBuiltins "any" = some (.builtin "any") := by decide +kernel
theorem bs_sorted : bootBuiltins "sorted" = some (.builtin "sorted") := by decide +kernel
theorem bs_isinstance : bootBuiltins "isinstance" = some (.builtin "isinstance") := by decide +kernel
theorem bs_abs : bootBuiltins "abs" = some (.builtin "abs") := by decide +kernel
theorem bs_list : bootBuiltins "list" = some (.type "list") := by decide +kernel
theorem bs_int : bootBuiltins "int" = some (.type "int") := by decide +kernel
theorem bs_bool : bootBuiltins "bool" = some (.type "bool") := by decide +kernel
theorem bs_tuple : bootBuiltins "tuple" = some (.type "tuple") := by decide +kernel

/-- a def by its name: its promise, its place -/
structure Cal (P : Program) (w : World) (K : PySem.W.Frag) (mg : Str → Option Value) (base : Heap) (x : Str) (k : Nat) (ps : List Str) (sp : Sp) : Prop where
  ex : ∃ f fd, FnOk P w K mg base CX0 k f fd ps sp ∧ mg x = some (.ref f) ∧ PySem.W.keepIn K (.ref f) = true ∧ Binds K fd ps []
theorem pe_cal {X : Cx} {x : Str} {k : Nat} {ps : List Str} {sp : Sp} {p pos : Pos} {e : Expr} {es : List Expr} {t : TA} (c : Cal X.prog X.w X.K X.mg X.base x k ps sp) (hr : Room k X.A) (hg : Gl X x) (ha : PA X (e :: es) t)
    (hdb : (x == ("__debug__" : Str)) = false := by decide) (he : starEach (e :: es) X.env = (false, eval e X.env) :: starEach es X.env := by rfl) (hpl : (backTo pos (starEach es X.env)).any (·.1) = false := by rfl) :
    PE X (.Call (.Name x p) (e :: es) [] pos) (tCall sp [] E0 t) := by
  obtain ⟨f, fd, F, hm, hk, hb⟩ := c.ex
  exact pe_call F hr hg hm hk hb .nil pass0 ha hdb he hpl

/-! ### isinstance -/
class Ty (α : Type) [Enc α] where
  name : String
  ty : ∀ {p : Pm} {G H : Hp} {x : α} {v : V}, Same G H → Rp p G (enc x) v → TyX p.K H v (.type name)
instance : Ty Int := ⟨"int", fun _ h => by rw [show _ = V.int _ from h]; exact .base (.int _)⟩
instance {α : Type} [Enc α] : Ty (List α) := ⟨"list", fun s h => by
  obtain ⟨a, xs, rfl, h1, _⟩ := h
  exact .base (.lst (s _ _ h1))⟩
instance {α β : Type} [Enc α] [Enc β] : Ty (α × β) := ⟨"tuple", fun s h => by
  obtain ⟨a, xs, rfl, h1, _⟩ := h
  exact .base (.tup (s _ _ h1))⟩
instance : Ty Bool := ⟨"bool", fun _ h => by rw [show _ = V.bl _ from h]; exact .base (.bl _)⟩
section
variable {p : Pm} {env : List Sl} {ta tb tc te : TE} {α β : Type} [Enc α] [Enc β]
theorem ev_isi [Ty α] {ma : Option α} {n : String} {b : Bool} (h : Ev p false te env ma) (hb : kitB (Ty.name α) n = some b) : Ev p false (tCB (rIsi p.K) (tCons te (tCons (tC (.ty n)) tNil))) env (ma.bind fun _ => some b) := fun z e G0 H0 σ G H s Q k => by
  obtain ⟨x, e1, e⟩ := bind_some e
  cases e
  refine h x e1 G0 H0 σ G H s _ fun v G1 H1 g1 r1 => ?_
  exact ⟨v, .ty n, .type (Ty.name α), .type n, b, rfl, .ty n, Ty.ty g1.s r1, kit_ty hb, k _ G1 H1 g1 rfl⟩
end
end PU

/-! ### the layer's rules, the written part by its letter (inside a comprehension's block X.K is another term) -/
namespace PU
open PySem L2
section
variable {X : Cx} {K : PySem.W.Frag} {tg e e2 a b l : Expr} {te ta tb tl : TE} {t : TA} {pos p' q' tpos : Pos} {es : List Expr} {elts : List Expr} {kk : Nat}
theorem xi_list (K) (hl : PE X l tl) (hK : X.K = K := by rfl) : PI X tg l (iList K tl) := by subst hK; exact pi_list hl
theorem xi_tup (K) (hl : PE X l tl) (hK : X.K = K := by rfl) : PI X tg l (iTup K tl) := by subst hK; exact pi_tup hl
theorem xi_enum (K) (hg : Gl X "enumerate") (hm : X.mg "enumerate" = none) (ha : PA X [e] t) (hs : starEach [e] X.env = [(false, eval e X.env)] := by rfl) (hK : X.K = K := by rfl) : PI X (.Tuple elts kk tpos) (.Call (.Name "enumerate" p') [e] [] pos) (iEnum K t) := by
  subst hK; exact pi_enum hg hm ha hs
theorem xi_zip (K) (hg : Gl X "zip") (hm : X.mg "zip" = none) (ha : PA X [e, e2] t) (hs : starEach [e, e2] X.env = (false, eval e X.env) :: starEach [e2] X.env := by rfl) (hpl : (backTo pos (starEach [e2] X.env)).any (·.1) = false := by rfl) (hK : X.K = K := by rfl) :
    PI X (.Tuple elts kk tpos) (.Call (.Name "zip" p') [e, e2] [] pos) (iZip K t) := by
  subst hK; exact pi_zip hg hm ha hs hpl
theorem xi_rng1 (hg : Gl X "range") (hm : X.mg "range" = none) (ha : PA X [a] t) (hs : starEach [a] X.env = [(false, eval a X.env)] := by rfl) : PI X tg (.Call (.Name "range" p') [a] [] pos) (iRng1 t) := pi_range1 hg hm ha hs
theorem xe_ixL (K) (ha : PE X a ta) (hb : PE X b tb) (hs : PlainIx b) (hK : X.K = K := by rfl) : PE X (.Subscript a b pos) (tOp (rIxL K) ta tb) := by subst hK; exact pe_ix ix_list ha hb hs
theorem xe_ixT (K) (ha : PE X a ta) (hb : PE X b tb) (hs : PlainIx b) (hK : X.K = K := by rfl) : PE X (.Subscript a b pos) (tOp (rIxT K) ta tb) := by subst hK; exact pe_ix ix_tup ha hb hs
theorem xo_in (K) (hK : X.K = K := by rfl) : OpR X (compareOp .In) (rIn K false) := by subst hK; exact op_in_seq
theorem xo_notIn (K) (hK : X.K = K := by rfl) : OpR X (compareOp .NotIn) (rIn K true) := by subst hK; exact op_notIn_seq
theorem xo_eqD (K) (hu : X.A.units + 64 < cLine) (hK : X.K = K := by rfl) : OpR X (compareOp .Eq) (rEqD K) := by subst hK; exact op_eqD hu
theorem xo_neD (K) (hu : X.A.units + 64 < cLine) (hK : X.K = K := by rfl) : OpR X (compareOp .NotEq) (rNeD K) := by subst hK; exact op_neD hu
theorem xs_list (K) (hK : X.K = K := by rfl) : SlR X (rSlL K) := by subst hK; exact sl_list
theorem xe_rev (K) {k : Nat} {p1 p2 p3 : Pos} (he : PE X e te) (hK : X.K = K := by rfl) : PE X (.Subscript e (.Slice none none (some (.UnaryOp .USub (.Constant (.int 1) k p1) p2)) p3) pos) (tRevL K te) := by subst hK; exact pe_revL he
theorem xc_len (K) (hK : X.K = K := by rfl) : CallR X (.builtin "len") (rLenQ K) := by subst hK; exact call_len_seq
theorem xc_sum (K) (hc : X.calm = true := by rfl) (hK : X.K = K := by rfl) : CallR X (.builtin "sum") (rSum K) := by subst hK; exact cr_sum hc
theorem xc_max (K) (hc : X.calm = true := by rfl) (hK : X.K = K := by rfl) : CallR X (.builtin "max") (rMax K) := by subst hK; exact cr_max hc
theorem xc_min (K) (hc : X.calm = true := by rfl) (hK : X.K = K := by rfl) : CallR X (.builtin "min") (rMin K) := by subst hK; exact cr_min hc
theorem xc_all (K) (hc : X.calm = true := by rfl) (hK : X.K = K := by rfl) : CallR X (.builtin "all") (rAll K) := by subst hK; exact cr_all hc
theorem xc_any (K) (hc : X.calm = true := by rfl) (hK : X.K = K := by rfl) : CallR X (.builtin "any") (rAny K) := by subst hK; exact cr_any hc
theorem xc_sorted (K) (hK : X.K = K := by rfl) : CallR X (.builtin "sorted") (rSorted K) := by subst hK; exact cr_sorted
theorem xc_list (K) (hK : X.K = K := by rfl) : CallR X (.type "list") (rListQ K) := by subst hK; exact call_list_of
theorem xc_isi (K) (hK : X.K = K := by rfl) : CallR X (.builtin "isinstance") (rIsi K) := by subst hK; exact call_isi
theorem xm_index (K) (hK : X.K = K := by rfl) : MtR X "list.index" (rIndex K) := by subst hK; exact mt_index
theorem xe_index (K) {apos cpos : Pos} {o : Expr} {to : TE} (ho : PE X o to) (ha : PA X (e :: es) t) (hbase : attributeBase o "index" X.env (eval o X.env) = eval o X.env := by rfl)
    (hfew : ((backTo cpos (starEach (e :: es) X.env)).all (fun x => !x.1) && (backToKw cpos (keywordEach [] X.env)).all (fun x => x.1.isSome) && decide ((e :: es).length + ([] : List Keyword).length + (if ([] : List Keyword).isEmpty then 0 else 1) < 30)) = true := by rfl)
    (hline : (apos.endLine == cpos.line) = true := by rfl) (hs : starEach (e :: es) X.env = (false, eval e X.env) :: starEach es X.env := by rfl) (hplain : (backTo cpos (starEach es X.env)).any (·.1) = false := by rfl) (hK : X.K = K := by rfl) :
    PE X (.Call (.Attribute o "index" apos) (e :: es) [] cpos) (tBM K "list" (rIndex K) to t) := by
  subst hK
  exact pe_bm PySem.F.plainAttrs_list PySem.F.slot_list_index PySem.F.type_list_index mt_index ho ha hbase hfew hline hs hplain
theorem xe_append (K) {apos cpos : Pos} {o : Expr} {to : TE} (ho : PE X o to) (ha : PA X (e :: es) t) (hbase : attributeBase o "append" X.env (eval o X.env) = eval o X.env := by rfl)
    (hfew : ((backTo cpos (starEach (e :: es) X.env)).all (fun x => !x.1) && (backToKw cpos (keywordEach [] X.env)).all (fun x => x.1.isSome) && decide ((e :: es).length + ([] : List Keyword).length + (if ([] : List Keyword).isEmpty then 0 else 1) < 30)) = true := by rfl)
    (hline : (apos.endLine == cpos.line) = true := by rfl) (hs : starEach (e :: es) X.env = (false, eval e X.env) :: starEach es X.env := by rfl) (hplain : (backTo cpos (starEach es X.env)).any (·.1) = false := by rfl) (hK : X.K = K := by rfl) :
    PE X (.Call (.Attribute o "append" apos) (e :: es) [] cpos) (tBM K "list" rAppend to t) := by
  subst hK
  exact pe_bm PySem.F.plainAttrs_list PySem.F.slot_list_append PySem.F.type_list_append mt_append ho ha hbase hfew hline hs hplain
theorem xe_insert (K) {apos cpos : Pos} {o : Expr} {to : TE} (ho : PE X o to) (ha : PA X (e :: es) t) (hbase : attributeBase o "insert" X.env (eval o X.env) = eval o X.env := by rfl)
    (hfew : ((backTo cpos (starEach (e :: es) X.env)).all (fun x => !x.1) && (backToKw cpos (keywordEach [] X.env)).all (fun x => x.1.isSome) && decide ((e :: es).length + ([] : List Keyword).length + (if ([] : List Keyword).isEmpty then 0 else 1) < 30)) = true := by rfl)
    (hline : (apos.endLine == cpos.line) = true := by rfl) (hs : starEach (e :: es) X.env = (false, eval e X.env) :: starEach es X.env := by rfl) (hplain : (backTo cpos (starEach es X.env)).any (·.1) = false := by rfl) (hK : X.K = K := by rfl) :
    PE X (.Call (.Attribute o "insert" apos) (e :: es) [] cpos) (tBM K "list" rIns to t) := by
  subst hK
  exact pe_bm PySem.F.plainAttrs_list PySem.F.slot_list_insert PySem.F.type_list_insert mt_insert ho ha hbase hfew hline hs hplain
theorem xg_tup (K) {k n : Nat} {gs : TGs} (hc : X.calm = true) (h : PGs X es gs) (hn : (assignEach es X.env).length = n := by rfl) (hst : (assignEach es X.env).findIdx? (·.1) = none := by rfl) (hK : X.K = K := by rfl) : PG X (.Tuple es k pos) (gTup K n gs) := by
  subst hK; exact pg_tup hc h hn hst
end
end PU

set_option Elab.async false
set_option maxRecDepth 100000
set_option linter.all false
/-! PU6: sorted(set(xs)) of ints; the script; some more statements. -/
namespace PU
open PySem L2 PySem.Spec PyProof.Rows

section
variable {P : Program} {w : World} {A : Around} {E : Value → Shared → Prop} {s : Shared}
/-- the new set's empty record -/
def noSet (w : World) : Obj := { cls := .type "set", dict := none, data := .set #[] 0 (.fresh 0 0 (!w.params.followText "set-order")) }
set_option maxHeartbeats 3200000 in
/-- set(l), l a list of ints -/
theorem set_of_ints {l : Addr} {its : Array Value} (ns : List Int) {Q : Value → Shared → Prop} (hh : A.handled = none) (hl : s.heap.IsList l its) (hi : IntsAre its.toList ns) (hb : ns.length + 1 < scanBound)
    (k : ∀ (h' : Heap) (tk c : Nat), SetR w h' s.heap.objs.size (fun j => decide (j ∈ ns)) c → c ≤ ns.length → (∀ b o, s.heap.get? b = some o → h'.get? b = some o) → Q (.ref s.heap.objs.size) { s with heap := h', toks := tk }) :
    wpAny (model P w) A (call (.type "set") [.ref l]) Q E s := by
  have size_eq : its.size = ns.length := by
    have := IntsAre.length hi
    rwa [Array.length_toList] at this
  obtain ⟨c, tl, hmro⟩ := F.called_set.mro
  have f1 := F.called_set.made
  have f2 := F.called_set.sub
  refine wpAny_call (codeAny_of_tree ?_)
  show wpAny _ _ (callAny (.type "set") _) _ _ _
  refine wpAny_pure ⟨Code.quiet_builtin _ (by decide +kernel), codeAny_builtin F.entry_type_call ?_⟩
  rw [Around.under_plain (weight_type_call_type "set" [.ref l] []) rfl]
  have f3 := F.called_set.notType
  have f4 := F.called_set.canCreate
  have f5 := F.typeCall_set_1 (.ref l)
  repeat (any_goals (first | assumption | wp_step))
  refine codeAny_mono (code_set_led1 (.ref l) (E := E) (Q₁ := fun obj s₁ => obj = .ref s.heap.objs.size ∧ s₁ = { s with heap := s.heap.push (noSet w) }) ⟨rfl, rfl⟩) fun r s₁ hr => ?_
  cases r with
  | error e => exact hr
  | ok fl =>
    cases fl with
    | ret obj =>
      obtain ⟨rfl, rfl⟩ := hr
      have at0 : (s.heap.push (noSet w)).get? s.heap.objs.size = some (noSet w) := Heap.get?_push_size _ rfl
      have ty0 : Shared.TypeIs { s with heap := s.heap.push (noSet w) } (.ref s.heap.objs.size) "set" := ⟨_, at0, rfl⟩
      have f6 := F.called_set.init.lookup
      have f7 := F.called_set.init.bind (.ref s.heap.objs.size)
      repeat (any_goals (first | assumption | wp_step))
      refine codeAny_mono (codeAny_call_builtin (R := wants (fun r s₂ => r = .none ∧ ∃ h' tk c, s₂ = { s with heap := h', toks := tk } ∧ SetR w h' s.heap.objs.size (fun j => decide (j ∈ ns)) c ∧ c ≤ ns.length ∧ ∀ b o, s.heap.get? b = some o → h'.get? b = some o) E)
        F.called_set.init.plain F.entry_set_init (check_set_init_1 ty0 ?_)) fun r₂ s₂ hr₂ => ?_
      · obtain ⟨ol, hol, hcl, nl, hdl⟩ := hl
        obtain ⟨ocls, odict, odata, oslots⟩ := ol
        simp only at hcl hdl
        subst hcl; subst hdl
        have hol1 : (s.heap.push (noSet w)).get? l = some { cls := .type "list", dict := odict, data := .seq its nl, slots := oslots } := Heap.get?_push_of_some _ hol
        have g1 := F.sub_list_set
        have g2 := F.sub_list_frozenset
        have g3 : (Value.type "list" == Value.type "dict") = false := by decide
        have hl1 : (s.heap.push (noSet w)).IsList l its := ⟨_, hol1, rfl, nl, rfl⟩
        unfold Builtin.«set.__init__» noKeywords Builtin.Frozenset.updateFrom
        generalize hPI : pyIter = PI
        wp_walk
        subst hPI
        refine wpAny_pyIter_list hl1 (wpAny_bind (wpAny_runValue ?_))
        have lS : l < s.heap.objs.size := Heap.lt_size hol
        have hh3 : A.in1.in1.in1.handled = none := by simp [hh]
        have ne1 : l ≠ (s.heap.push (noSet w)).objs.size := by rw [Heap.size_push]; exact Nat.ne_of_lt (Nat.lt_succ_of_lt lS)
        have ne2 : s.heap.objs.size ∉ [(s.heap.push (noSet w)).objs.size, l] := by
          rw [Heap.size_push]
          intro z
          rcases List.mem_cons.mp z with z | z
          · exact absurd z (Nat.ne_of_lt (Nat.lt_succ_self _))
          · exact absurd (List.mem_singleton.mp z) (Nat.ne_of_gt lS)
        have val : ∀ (i : Nat) (v : Value), its[i]? = some v → ∃ k t, ns[i]? = some k ∧ v = .int k t := fun i v hv => by
          have hi' : i < ns.length := by rw [← size_eq]; exact (Array.getElem?_eq_some_iff.mp hv).1
          obtain ⟨t, e⟩ := IntsAre.int_at hi i v (by rw [Array.getElem?_toList]; exact hv)
          exact ⟨ns[i], t, by simp [hi'], by rw [e]; simp [List.getD_eq_getElem?_getD, hi']⟩
        refine set_update_ints ((Walks.list hh3 _ l ne1 its).toS) s.heap.objs.size ne2 ns size_eq hb val (its.size - 0) 0 _ (by omega) (Nat.zero_le _) ⟨⟨_, Heap.get?_push_size _ rfl, rfl, rfl⟩, hl1.push _⟩ ⟨0, Nat.le_refl 0, setR_new_at (Heap.get?_push_of_some _ at0)⟩ fun s' c' hm hc' hS' => ?_
        obtain ⟨h', g', d', tk', os'⟩ := s'
        have eg : g' = s.gens := hm.gens
        have ed : d' = s.drawn := hm.drawn
        have eo : os' = s.os := hm.os
        subst eg; subst ed; subst eo
        show wpAny _ _ _ _ _ _
        refine wpAny_pure ?_
        show wpAny _ _ (ret Value.none) _ _ _
        rw [size_eq] at hc'
        refine wpAny_pure ⟨rfl, h', tk', c', rfl, hS', hc', fun b o e => hm.heap b o ?_ (Heap.get?_push_of_some _ (Heap.get?_push_of_some _ e))⟩
        have b0 : b < s.heap.objs.size := Heap.lt_size e
        intro z
        rcases List.mem_cons.mp z with z | z
        · exact absurd z (Nat.ne_of_lt b0)
        · have z := List.mem_singleton.mp z
          rw [Heap.size_push] at z
          exact absurd z (Nat.ne_of_lt (Nat.lt_succ_of_lt b0))
      · cases r₂ with
        | error e => exact hr₂
        | ok fl₂ =>
          cases fl₂ with
          | ret r =>
            obtain ⟨rfl, h', tk, c', rfl, hS', hc', hk'⟩ := hr₂
            repeat (any_goals (first | assumption | wp_step))
            exact k _ _ _ hS' hc' hk'
          | _ => exact hr₂.elim
    | _ => exact hr.elim
end
section
variable {X : Cx}
def rSetOf (K : PySem.W.Frag) (w : World) : List V → Hp → VK → Prop := fun xs H Q => ∃ (a : Addr) (ns : List Int), xs = [.ref a] ∧ SqL K H a (ns.map V.int) ∧ ns.length < 60 ∧ ∀ l c, H l = none → c ≤ ns.length → Q (.ref l) (upd H l (SetO w l (fun j => decide (j ∈ ns)) c))
theorem xc_setOf (K) (hc : X.calm = true := by rfl) (hK : X.K = K := by rfl) : CallR X (.type "set") (rSetOf K X.w) := by
  subst hK
  intro pins s σ H xs us Q I r h
  obtain ⟨a, ns, rfl, hS, hl, q⟩ := h
  rw [Vals.ref1 r]
  obtain ⟨its, rv, pl, hz⟩ := I.list hS
  refine set_of_ints ns (I.ok.hd hc) pl.isList (Vals.ints rv) (Nat.lt_of_lt_of_le (show ns.length + 1 < 61 by omega) (by decide)) fun h' tk c R hc' kp => ?_
  exact ⟨.ref _, upd H s.heap.objs.size (SetO X.w s.heap.objs.size (fun j => decide (j ∈ ns)) c), I.laid (t' := tk) kp (Nat.le_refl _) (setO_new R), rfl, q _ _ (I.hok.fresh (Nat.le_refl _)) hc'⟩
/-- sorted(set(xs)) -/
def tSset (K : PySem.W.Frag) (w : World) (te : TE) : TE := tCB (rSortedSet w) (tCons (tCB (rSetOf K w) (tCons te tNil)) tNil)
theorem bs_set : bootBuiltins "set" = some (.type "set") := by decide +kernel
end
open Enc
def dedup : List Int → List Int
  | [] => []
  | x :: xs => if x ∈ dedup xs then dedup xs else x :: dedup xs
theorem mem_dedup {x : Int} : ∀ {xs : List Int}, x ∈ dedup xs ↔ x ∈ xs
  | [] => .rfl
  | y :: ys => by
    unfold dedup
    have ih := mem_dedup (x := x) (xs := ys)
    split
    · rename_i h
      rw [ih, List.mem_cons]
      refine ⟨.inr, fun z => z.elim (fun e => ?_) id⟩
      rw [e]; exact (mem_dedup (x := y) (xs := ys)).mp h
    · rw [List.mem_cons, List.mem_cons, ih]
theorem nodup_dedup : ∀ xs : List Int, (dedup xs).Nodup
  | [] => .nil
  | x :: xs => by
    unfold dedup
    split
    · exact nodup_dedup xs
    · rename_i h
      exact List.nodup_cons.mpr ⟨h, nodup_dedup xs⟩
def sset (xs : List Int) : List Int := isort (dedup xs)
theorem mem_sset {x : Int} {xs : List Int} : x ∈ sset xs ↔ x ∈ xs := ((isort_perm _).mem_iff).trans mem_dedup
theorem sset_lt (xs : List Int) : (sset xs).Pairwise (· < ·) := lt_of_le_nodup _ (isort_sorted _) ((isort_perm _).nodup_iff.mpr (nodup_dedup xs))
theorem rising_eq : ∀ {xs ys : List Int}, xs.Pairwise (· < ·) → ys.Pairwise (· < ·) → (∀ x, x ∈ xs ↔ x ∈ ys) → xs = ys
  | [], [], _, _, _ => rfl
  | [], y :: ys, _, _, h => absurd ((h y).mpr List.mem_cons_self) (by simp)
  | x :: xs, [], _, _, h => absurd ((h x).mp List.mem_cons_self) (by simp)
  | x :: xs, y :: ys, h1, h2, h => by
    obtain ⟨a1, a2⟩ := List.pairwise_cons.mp h1
    obtain ⟨b1, b2⟩ := List.pairwise_cons.mp h2
    have e : x = y := by
      rcases List.mem_cons.mp ((h x).mp List.mem_cons_self) with q | q
      · exact q
      · rcases List.mem_cons.mp ((h y).mpr List.mem_cons_self) with q' | q'
        · exact q'.symm
        · have := b1 x q; have := a1 y q'; omega
    subst e
    rw [rising_eq a2 b2 fun z => ?_]
    refine ⟨fun hz => ?_, fun hz => ?_⟩
    · rcases List.mem_cons.mp ((h z).mp (List.mem_cons_of_mem _ hz)) with q | q
      · have := a1 z hz; omega
      · exact q
    · rcases List.mem_cons.mp ((h z).mpr (List.mem_cons_of_mem _ hz)) with q | q
      · have := b1 z hz; omega
      · exact q
def sset? (xs : List Int) : Option (List Int) := if xs.length < 60 then some (sset xs) else none
section
variable {p : Pm} {env env' : List Sl} {ta tb tc te : TE} {t u tz : TS} {α β γ δ ε ρ : Type} [Enc α] [Enc β] [Enc γ] [Enc δ] [Enc ε] {Po : Post ρ}
theorem ev_sset {w : World} {ma : Option (List Int)} (h : Ev p false te env ma) : Ev p true (tSset p.K w te) env (ma.bind fun xs => sset? xs) := fun z e G0 H0 σ G H s Q k => by
  obtain ⟨xs, e1, e⟩ := bind_some e
  unfold sset? at e
  split at e
  · rename_i hl
    cases e
    refine h xs e1 G0 H0 σ G H s _ fun v G1 H1 g1 r1 => ?_
    obtain ⟨a, vs, rfl, h1, h2⟩ := r1
    cases ints_of h2
    refine ⟨a, xs, rfl, .of (g1.s _ _ h1), hl, fun l c hn hc => ⟨l, _, c, rfl, upd_same, by omega, fun ns q so me ln hq => ?_⟩⟩
    have e : ns = sset xs := rising_eq so (sset_lt xs) fun x => by rw [me x, mem_sset]; simp
    subst e
    have g2 : Gr G1 G1 H1 (upd H1 l (SetO w l (fun j => decide (j ∈ xs)) c)) := .own g1.s hn
    exact k _ G1 _ ((g1.trans g2).trans (.own g2.s hq)) ⟨q, _, (sset xs).map enc, rfl, rfl, (g1.trans g2).h.free hq, g2.s.free hq, upd_same, of_ints⟩
  · cases e

/-! ### the script -/
theorem one_scr {G : Hp} {x : Scr} {v : V} (r : Rp p G (enc x) v) : ∃ a, v = .ref a ∧ SqL p.K G a (x.ns.map V.int) := r
theorem cut_ints (xs : List Int) (lo hi : Option Int) : cutV (xs.map V.int) lo hi = (cut xs lo hi).map V.int := by
  unfold cutV cut
  rw [List.length_map, List.map_take, List.map_drop]
theorem ev_scrCut {ma : Option Scr} {mi : Option Int} (ha : Ev p false ta env ma) (hb : Ev p false tb env mi) : Ev p true (tSl (rSlL p.K) ta tNoPart (tPart tb)) env (ma.bind fun x => mi.bind fun i => some (cut x.ns none (some i))) := fun z e G0 H0 σ G H s Q k => by
  obtain ⟨x, e1, e⟩ := bind_some e
  obtain ⟨i, e2, e⟩ := bind_some e
  cases e
  refine ha x e1 G0 H0 σ G H s _ fun v G1 H1 g1 r1 => ?_
  obtain ⟨a, rfl, h1⟩ := one_scr r1
  refine hb i e2 G0 H0 σ G1 H1 (s.step g1) _ fun w G2 H2 g2 r2 => ?_
  cases (show w = .int i from r2)
  refine ⟨i, rfl, a, _, rfl, (g1.s.trans g2.h).seq h1, fun q hq => ?_⟩
  rw [cut_ints]
  exact k _ G2 _ ((g1.trans g2).trans (.own g2.s hq)) ⟨q, _, (cut x.ns none (some i)).map enc, rfl, rfl, (g1.trans g2).h.free hq, g2.s.free hq, upd_same, of_ints⟩
theorem ev_scrLen {ma : Option Scr} (h : Ev p false te env ma) : Ev p false (tCB (rLenQ p.K) (tCons te tNil)) env (ma.bind fun x => some (x.ns.length : Int)) := fun z e G0 H0 σ G H s Q k => by
  obtain ⟨x, e1, e⟩ := bind_some e
  cases e
  refine h x e1 G0 H0 σ G H s _ fun v G1 H1 g1 r1 => ?_
  obtain ⟨a, rfl, h1⟩ := one_scr r1
  refine ⟨a, _, rfl, .inl (g1.s.seq h1), ?_⟩
  rw [List.length_map]
  exact k _ G1 H1 g1 rfl
theorem dpInts {G : Hp} : ∀ xs : List Int, DpAll p.K G (xs.map V.int) (xs.map PyData.int)
  | [] => .nil
  | x :: xs => .cons (.int x) (dpInts xs)
theorem ev_scrNe {ma : Option Scr} (h : Ev p false te env ma) : Ev p false (tOp (rNeD p.K) te (tLst tNil)) env (ma.bind fun x => some (!decide (x.ns = []))) := fun z e G0 H0 σ G H s Q k => by
  obtain ⟨x, e1, e⟩ := bind_some e
  cases e
  refine h x e1 G0 H0 σ G H s _ fun v G1 H1 g1 r1 => ?_
  obtain ⟨a, rfl, h1⟩ := one_scr r1
  refine ⟨Nat.zero_le _, fun q hq => ?_⟩
  have g2 : Gr G1 G1 H1 (upd H1 q (.lst [])) := .own g1.s hq
  have e0 : ∀ xs : List Int, PyData.eqv (.list (xs.map PyData.int)) (.list (([] : List Int).map PyData.int)) = decide (xs = []) := fun xs => by
    have := eqvAll xs ([] : List Int)
    simp only [PyData.eqv]
    exact this
  refine ⟨.list (x.ns.map PyData.int), .list (([] : List Int).map PyData.int), .lst (g2.h.seq (g1.s.seq h1)) (dpInts _), .lst (.of upd_same) .nil, shaped_of (α := List Int) (by decide) x.ns, shaped_of (α := List Int) (by decide) [], ?_⟩
  rw [e0]
  exact k _ G1 _ (g1.trans g2) rfl

/-! ### more -/
theorem pe_cst {X : Cx} {x : Str} {i : Int} {pos : Pos} (h : ∃ t, X.mg x = some (.int i t)) (hg : Gl X x) (hd : (x == ("__debug__" : Str)) = false := by decide) : PE X (.Name x pos) (tC (.int i)) := by
  obtain ⟨t, h⟩ := h
  exact pe_glob hg h ⟨t, rfl⟩ hd
theorem ev_rep {ma : Option (List α)} {mb : Option Int} (ha : Ev p false ta env ma) (hb : Ev p false tb env mb) : Ev p true (tOp rRep ta tb) env (ma.bind fun xs => mb.bind fun i => rep? xs i) := ev_op ha hb fun xs i => by
  intro z e G H v w s rv rw' Q k
  unfold rep? at e
  split at e
  · rename_i c
    cases e
    obtain ⟨a, vs, rfl, h1, h2⟩ := rv
    cases (show w = .int i from rw')
    have l1 := h2.length
    rw [List.length_map] at l1
    refine ⟨a, i, vs, rfl, rfl, s _ _ h1, by omega, by omega, sz_of (by rw [← l1]; exact c.2), fun q hq => ?_⟩
    have rep : ∀ n : Nat, RpA p G ((List.replicate n xs).flatten.map enc) (List.replicate n vs).flatten := fun n => by
      induction n with
      | zero => exact rfl
      | succ n ih =>
        rw [List.replicate_succ, List.replicate_succ, List.flatten_cons, List.flatten_cons, List.map_append]
        exact h2.append ih
    exact k _ G _ (.own s hq) ⟨q, _, _, rfl, rfl, hq, s.free hq, upd_same, rep _⟩
  · cases e
theorem le_nil : leE [] [] := trivial
theorem le_f {x : Sl} {xs ys : List Sl} (h : leE xs ys) : leE (x :: xs) (.fr :: ys) := ⟨.inl rfl, h⟩
theorem le_r {x : Sl} {xs ys : List Sl} (h : leE xs ys) : leE (x :: xs) (x :: ys) := ⟨.inr rfl, h⟩
theorem k_add {i : Nat} {a : Int} {me : Option Int} {rest : Int → Option ρ} (h0 : env[i]? = some (.va (enc a))) (h : Ev p false te env me) (k : ∀ x, Bk p tz (env.set i (.va (enc x))) (rest x) Po) : Bk p (tSeq (tAug i te (ipI fun i j => i + j)) tz) env (me.bind fun x => (some (a + x)).bind fun y => rest y) Po :=
  k_aug (f := fun i j => i + j) h0 h fun x => k (a + x)
theorem k_par3 {ni nj nl : Bool} {i j l : Nat} {ma : Option α} {mb : Option β} {mc : Option γ} {rest : α → β → γ → Option ρ} (ha : Ev p ni ta env ma) (hb : Ev p nj tb env mb) (hc : Ev p nl tc env mc)
    (k : ∀ x y z, Bk p tz (((env.set i (sl ni (enc x))).set j (sl nj (enc y))).set l (sl nl (enc z))) (rest x y z) Po) :
    Bk p (tSeq (tPar3 i j l (tCons ta (tCons tb (tCons tc tNil)))) tz) env (ma.bind fun x => mb.bind fun y => mc.bind fun z => rest x y z) Po := fun r e G0 H0 σ G H st D q => by
  obtain ⟨x, e1, e⟩ := bind_some e
  obtain ⟨y, e2, e⟩ := bind_some e
  obtain ⟨z, e3, e⟩ := bind_some e
  refine ha x e1 G0 H0 σ G H st _ fun v G1 H1 g1 r1 => hb y e2 G0 H0 σ G1 H1 (st.step g1) _ fun w G2 H2 g2 r2 => hc z e3 G0 H0 σ G2 H2 ((st.step g1).step g2) _ fun u G3 H3 g3 r3 => ⟨v, w, u, rfl, ?_⟩
  exact k x y z r e G0 H0 _ G3 H3 (((st.set_res g1 r1).set_res g2 r2).set_res g3 r3) D (Po.mono ((g1.trans g2).trans g3).g q)
theorem map_erase {α β : Type} (f : α → β) : ∀ (xs : List α) (n : Nat), (xs.eraseIdx n).map f = (xs.map f).eraseIdx n
  | [], _ => rfl
  | _ :: _, 0 => rfl
  | x :: xs, n + 1 => by
    show f x :: (xs.eraseIdx n).map f = f x :: (xs.map f).eraseIdx n
    rw [map_erase f xs n]
/-- return found, a list of one's own -/
theorem k_retO {i : Nat} {xs : List α} (h : env[i]? = some (.ow (xs.map enc))) : Bk p (tRet (tVar i)) env (some xs) (pR p true (List α)) := fun r e G0 H0 σ G H st D q => by
  cases e
  obtain ⟨Fs, f⟩ := st.rs
  obtain ⟨v, a1, ⟨l, vs, rfl, eF, h2⟩, a3, a4⟩ := f.wh i _ h
  have hl : Fs i l = some (.lst vs) := by rw [eF]; exact upd_same
  exact ⟨_, a1, q _ G H st.gr ⟨l, vs, _, rfl, rfl, (a4 _ _ hl).2, (a4 _ _ hl).1, a3 _ _ hl, h2⟩⟩
/-- found.insert(i, found.pop(j)) -/
def move? (xs : List α) (i j : Int) : Option (List α) := (ixN xs.length j).bind fun n => (xs[n]?).bind fun x => if xs.length < 100000 ∧ 0 ≤ i ∧ i < 2 ^ 62 then some (insL (xs.eraseIdx n) i.toNat x) else none
theorem k_move {i : Nat} {xs : List α} {mi mj : Option Int} {rest : List α → Option ρ} (h : env[i]? = some (.ow (xs.map enc))) (ha : Ev p false ta env mi) (hb : Ev p false tb env mj) (k : ∀ ys, Bk p tz (env.set i (.ow (ys.map enc))) (rest ys) Po) :
    Bk p (tSeq (tDrop (tBM p.K "list" rIns (tVar i) (tCons ta (tCons (tBM p.K "list" rPopAt (tVar i) (tCons tb tNil)) tNil)))) tz) env (mi.bind fun a => mj.bind fun b => (move? xs a b).bind rest) Po := fun r e G0 H0 σ G H st D q => by
  obtain ⟨a, e0, e⟩ := bind_some e
  obtain ⟨b, e1, e⟩ := bind_some e
  obtain ⟨ys, e2, e⟩ := bind_some e
  obtain ⟨n, e3, e2⟩ := bind_some e2
  obtain ⟨x, e4, e2⟩ := bind_some e2
  split at e2
  · rename_i hl
    cases e2
    obtain ⟨Fs, f⟩ := st.rs
    obtain ⟨v, a1, ⟨l0, vs0, rfl, eF, h2⟩, a3, a4⟩ := f.wh i _ h
    have hH : H l0 = some (.lst vs0) := a3 _ _ (by rw [eF]; exact upd_same)
    refine ⟨.ref l0, a1, .inl ⟨rfl, _, .of hH⟩, ?_⟩
    refine ha a e0 G0 H0 σ G H st _ fun w G1 H1 g1 r1 => ⟨.ref l0, a1, .inl ⟨rfl, _, .of (g1.h _ _ hH)⟩, ?_⟩
    refine hb b e1 G0 H0 σ G1 H1 (st.step g1) _ fun u G2 H2 g2 r2 => ?_
    cases (show w = .int a from r1)
    cases (show u = .int b from r2)
    refine ((st.step g1).step g2).put h fun l vs b1 b2 b3 _ b4 => ?_
    rw [a1] at b1; cases b1
    have l1 := b3.length
    rw [List.length_map] at l1
    obtain ⟨q1, q2, q3, q4⟩ := ixN_seq e3
    obtain ⟨z, z1, z2⟩ := b3.get (i := n) (d := enc x) (by rw [List.getElem?_map, e4]; rfl)
    refine ⟨l0, vs, b, n, z, rfl, rfl, b2, by omega, by omega, by rw [← l1]; exact q1, z1, ?_⟩
    have hl2 : (vs.eraseIdx n).length < sizeLine := Nat.lt_of_le_of_lt (show (vs.eraseIdx n).length ≤ 100000 by have := List.length_eraseIdx_le vs n; omega) (by decide)
    refine ⟨l0, vs.eraseIdx n, a, z, rfl, rfl, upd_same, hl2, hl.2.1, by omega, ?_⟩
    rw [upd_upd]
    refine k (insL (xs.eraseIdx n) a.toNat x) r e G0 H0 σ G2 _ ?_ D (Po.mono (g1.trans g2).g q)
    unfold insL
    rw [List.map_append, List.map_append, List.map_take, List.map_drop]
    have er : (xs.eraseIdx n).map enc = (xs.map enc).eraseIdx n := map_erase enc xs n
    rw [er]
    exact b4 _ _ ((((b3.erase n).take _).append (.cons z2 .nil)).append ((b3.erase n).drop _))
  · cases e2
def sp4 (p : Pm) (nw : Bool) (f : α → β → δ → ε → Option γ) : Sp := spF p nw (fun x : α × β × δ × ε => [enc x.1, enc x.2.1, enc x.2.2.1, enc x.2.2.2]) fun x => f x.1 x.2.1 x.2.2.1 x.2.2.2
theorem ev_call4 {nw : Bool} {f : α → β → δ → ε → Option γ} {E : XK} {td : TE} {ma : Option α} {mb : Option β} {mc : Option δ} {md : Option ε} (ha : Ev p false ta env ma) (hb : Ev p false tb env mb) (hc : Ev p false tc env mc) (hd : Ev p false td env md) :
    Ev p nw (tCall (sp4 p nw f) [] E (tCons ta (tCons tb (tCons tc (tCons td tNil))))) env (ma.bind fun x => mb.bind fun y => mc.bind fun z => md.bind fun w => f x y z w) := fun r e G0 H0 σ G H s Q k => by
  obtain ⟨x, e1, e⟩ := bind_some e
  obtain ⟨y, e2, e⟩ := bind_some e
  obtain ⟨z, e3, e⟩ := bind_some e
  obtain ⟨w, e4, e⟩ := bind_some e
  refine ha x e1 G0 H0 σ G H s _ fun v1 G1 H1 g1 r1 => hb y e2 G0 H0 σ G1 H1 (s.step g1) _ fun v2 G2 H2 g2 r2 => hc z e3 G0 H0 σ G2 H2 ((s.step g1).step g2) _ fun v3 G3 H3 g3 r3 => hd w e4 G0 H0 σ G3 H3 (((s.step g1).step g2).step g3) _ fun v4 G4 H4 g4 r4 => ?_
  have g := ((g1.trans g2).trans g3).trans g4
  exact ⟨G4, (x, y, z, w), r, g4.s, .cons (Rp.mono ((g2.g.trans g3.g).trans g4.g) _ r1) (.cons (Rp.mono (g3.g.trans g4.g) _ r2) (.cons (Rp.mono g4.g _ r3) (.cons r4 .nil))), e, fun u G5 H5 g5 r5 => k u G5 H5 (g.trans g5) (res_back g.h r5)⟩
/-- a def of the text stands where its name says -/
structure Df (K : PySem.W.Frag) (mg : Str → Option Value) (x : Str) (st : Stmt) : Prop where
  ex : ∃ f fd, Fun K x x st f fd ∧ mg x = some (.ref f)
end
section
variable {X : Cx} {K : PySem.W.Frag} {e a : Expr} {te ta : TE} {t : TA} {es : List Expr} {p1 p2 q1 q2 pos : Pos}
theorem xe_sset {p : Pm} (hg : Gl X "sorted") (hm : X.mg "sorted" = none) (hg2 : Gl X "set") (hm2 : X.mg "set" = none) (ha : PE X a ta) (hc : X.calm = true := by rfl) (hs : starEach [a] X.env = [(false, eval a X.env)] := by rfl)
    (hs2 : starEach [Expr.Call (.Name "set" p1) [a] [] p2] X.env = [(false, eval (Expr.Call (.Name "set" p1) [a] [] p2) X.env)] := by rfl) (hK : X.K = p.K := by rfl) :
    PE X (.Call (.Name "sorted" q1) [.Call (.Name "set" p1) [a] [] p2] [] q2) (tSset p.K X.w ta) :=
  pe_callB (cr_sortedSet hc) hg hm bs_sorted (pa_cons (pe_callTy (xc_setOf p.K hc hK) hg2 hm2 bs_set (pa_cons ha pa_nil hs) (by decide) (by decide) hs rfl) pa_nil hs2) (by decide) (by decide) hs2 rfl
theorem xe_pop (K) {apos cpos : Pos} {o : Expr} {to : TE} (ho : PE X o to) (ha : PA X (e :: es) t) (hbase : attributeBase o "pop" X.env (eval o X.env) = eval o X.env := by rfl)
    (hfew : ((backTo cpos (starEach (e :: es) X.env)).all (fun x => !x.1) && (backToKw cpos (keywordEach [] X.env)).all (fun x => x.1.isSome) && decide ((e :: es).length + ([] : List Keyword).length + (if ([] : List Keyword).isEmpty then 0 else 1) < 30)) = true := by rfl)
    (hline : (apos.endLine == cpos.line) = true := by rfl) (hs : starEach (e :: es) X.env = (false, eval e X.env) :: starEach es X.env := by rfl) (hplain : (backTo cpos (starEach es X.env)).any (·.1) = false := by rfl) (hK : X.K = K := by rfl) :
    PE X (.Call (.Attribute o "pop" apos) (e :: es) [] cpos) (tBM K "list" rPopAt to t) := by
  subst hK
  exact pe_bm PySem.F.plainAttrs_list PySem.F.slot_list_pop PySem.F.type_list_pop mt_popAt ho ha hbase hfew hline hs hplain
end
end PU

set_option Elab.async false
set_option maxRecDepth 100000
set_option linter.all false
/-! PU7: things that are new through and through; objects. -/
namespace PU
open PySem L2
open Enc

def Dj (F1 F2 : Hp) : Prop := ∀ a o, F1 a = some o → F2 a = none
def un (F1 F2 : Hp) : Hp := fun a => match F1 a with
  | some o => some o
  | none => F2 a
theorem Dj.symm {F1 F2 : Hp} (h : Dj F1 F2) : Dj F2 F1 := fun a o e => by
  cases q : F1 a with
  | none => rfl
  | some u => rw [h a u q] at e; cases e
theorem un_some {F1 F2 : Hp} {a : Addr} {o : HO} (h : un F1 F2 a = some o) : F1 a = some o ∨ F2 a = some o := by
  unfold un at h
  cases q : F1 a with
  | none => rw [q] at h; exact .inr h
  | some u => rw [q] at h; cases h; exact .inl rfl
theorem un_none {F1 F2 : Hp} {a : Addr} : un F1 F2 a = none ↔ F1 a = none ∧ F2 a = none := by
  unfold un
  cases q : F1 a with
  | none => simp
  | some u => simp
theorem same_un1 {F1 F2 : Hp} : Same F1 (un F1 F2) := fun a o h => by
  unfold un; rw [h]
theorem same_un2 {F1 F2 : Hp} (d : Dj F1 F2) : Same F2 (un F1 F2) := fun a o h => by
  unfold un; rw [d.symm a o h]; exact h
theorem un_same {F1 F2 H : Hp} (h1 : Same F1 H) (h2 : Same F2 H) : Same (un F1 F2) H := fun a o e => (un_some e).elim (h1 a o) (h2 a o)

mutual
/-- unchangeable: it may be shared -/
def imm : D → Bool
  | .non => true
  | .bl _ => true
  | .int _ => true
  | .str _ => true
  | .tup ds => immA ds
  | .lst _ => false
  | .scr _ => false
  | .ins _ _ => false
def immA : List D → Bool
  | [] => true
  | d :: ds => imm d && immA ds
end
mutual
/-- v stands for d, and F is all of it that may change; what is unchangeable stands in G -/
def Dn (p : Pm) (G : Hp) : D → V → Hp → Prop
  | .non, v, F => v = .non ∧ F = nil
  | .bl b, v, F => v = .bl b ∧ F = nil
  | .int i, v, F => v = .int i ∧ F = nil
  | .str x, v, F => v = .str x ∧ F = nil
  | .lst ds, v, F => ∃ a xs F', v = .ref a ∧ DnA p G ds xs F' ∧ F' a = none ∧ F = upd F' a (.lst xs)
  | .tup ds, v, F => (immA ds = true ∧ Rp p G (.tup ds) v ∧ F = nil) ∨ (immA ds = false ∧ ∃ a xs F', v = .ref a ∧ DnA p G ds xs F' ∧ F' a = none ∧ F = upd F' a (.tup xs))
  | .scr _, _, _ => False
  | .ins c fs, v, F => ∃ a dx xs F', v = .ref a ∧ DnF p G fs xs F' ∧ F' a = none ∧ F = upd F' a (.ins (p.cl c) dx xs)
def DnA (p : Pm) (G : Hp) : List D → List V → Hp → Prop
  | [], xs, F => xs = [] ∧ F = nil
  | d :: ds, xs, F => ∃ v vs F1 F2, xs = v :: vs ∧ Dn p G d v F1 ∧ DnA p G ds vs F2 ∧ Dj F1 F2 ∧ F = un F1 F2
def DnF (p : Pm) (G : Hp) : List (Str × D) → List (Str × V) → Hp → Prop
  | [], xs, F => xs = [] ∧ F = nil
  | (f, d) :: ds, xs, F => ∃ v vs F1 F2, xs = (f, v) :: vs ∧ Dn p G d v F1 ∧ DnF p G ds vs F2 ∧ Dj F1 F2 ∧ F = un F1 F2
end
mutual
theorem Dn.mono {p : Pm} {G G' : Hp} (e : Same G G') : ∀ (d : D) {v : V} {F : Hp}, Dn p G d v F → Dn p G' d v F
  | .non, _, _, h => h
  | .bl _, _, _, h => h
  | .int _, _, _, h => h
  | .str _, _, _, h => h
  | .lst ds, _, _, h => by
    obtain ⟨a, xs, F', h1, h2, h3⟩ := h
    exact ⟨a, xs, F', h1, DnA.mono e ds h2, h3⟩
  | .tup ds, _, _, h => by
    rcases h with ⟨h0, h1, h2⟩ | ⟨h0, a, xs, F', h1, h2, h3⟩
    · exact .inl ⟨h0, Rp.mono e _ h1, h2⟩
    · exact .inr ⟨h0, a, xs, F', h1, DnA.mono e ds h2, h3⟩
  | .scr _, _, _, h => nomatch h
  | .ins c fs, _, _, h => by
    obtain ⟨a, dx, xs, F', h1, h2, h3⟩ := h
    exact ⟨a, dx, xs, F', h1, DnF.mono e fs h2, h3⟩
theorem DnA.mono {p : Pm} {G G' : Hp} (e : Same G G') : ∀ (ds : List D) {vs : List V} {F : Hp}, DnA p G ds vs F → DnA p G' ds vs F
  | [], _, _, h => h
  | d :: ds, _, _, h => by
    obtain ⟨v, vs, F1, F2, h1, h2, h3, h4⟩ := h
    exact ⟨v, vs, F1, F2, h1, Dn.mono e d h2, DnA.mono e ds h3, h4⟩
theorem DnF.mono {p : Pm} {G G' : Hp} (e : Same G G') : ∀ (ds : List (Str × D)) {vs : List (Str × V)} {F : Hp}, DnF p G ds vs F → DnF p G' ds vs F
  | [], _, _, h => h
  | (f, d) :: ds, _, _, h => by
    obtain ⟨v, vs, F1, F2, h1, h2, h3, h4⟩ := h
    exact ⟨v, vs, F1, F2, h1, Dn.mono e d h2, DnF.mono e ds h3, h4⟩
end
theorem dj_un' {A B G : Hp} (d : Dj A B) (h : Dj (un A B) G) : Dj A G ∧ Dj B G := ⟨fun a o e => h a o (same_un1 a o e), fun a o e => h a o (same_un2 d a o e)⟩
theorem dj_upd' {A G : Hp} {a : Addr} {o : HO} (n : A a = none) (h : Dj (upd A a o) G) : Dj A G ∧ G a = none := ⟨fun b u e => h b u (by
  by_cases c : b = a
  · subst c; rw [n] at e; cases e
  · rw [upd_ne c]; exact e), h a o upd_same⟩
theorem un_mono1 {A B G : Hp} (s : Same A B) (d : Dj B G) : Same (un A G) (un B G) := fun a o e => by
  rcases un_some e with e | e
  · exact same_un1 _ _ (s a o e)
  · exact same_un2 d _ _ e
mutual
theorem Dn.rp {p : Pm} {G : Hp} : ∀ (d : D) {v : V} {F : Hp}, Dj F G → Dn p G d v F → Rp p (un F G) d v
  | .non, _, _, _, h => h.1
  | .bl _, _, _, _, h => h.1
  | .int _, _, _, _, h => h.1
  | .str _, _, _, _, h => h.1
  | .lst ds, _, _, dj, h => by
    obtain ⟨a, xs, F', h1, h2, h3, rfl⟩ := h
    obtain ⟨d1, d2⟩ := dj_upd' h3 dj
    exact ⟨a, xs, h1, same_un1 _ _ upd_same, RpA.mono (un_mono1 (same_new h3) dj) _ (DnA.rp ds d1 h2)⟩
  | .tup ds, _, _, dj, h => by
    rcases h with ⟨h0, h1, h2⟩ | ⟨h0, a, xs, F', h1, h2, h3, rfl⟩
    · exact Rp.mono (same_un2 dj) _ h1
    · obtain ⟨d1, d2⟩ := dj_upd' h3 dj
      exact ⟨a, xs, h1, same_un1 _ _ upd_same, RpA.mono (un_mono1 (same_new h3) dj) _ (DnA.rp ds d1 h2)⟩
  | .scr _, _, _, _, h => nomatch h
  | .ins c fs, _, _, dj, h => by
    obtain ⟨a, dx, xs, F', h1, h2, h3, rfl⟩ := h
    obtain ⟨d1, d2⟩ := dj_upd' h3 dj
    exact ⟨a, dx, xs, h1, same_un1 _ _ upd_same, RpF.mono (un_mono1 (same_new h3) dj) _ (DnF.rp fs d1 h2)⟩
theorem DnA.rp {p : Pm} {G : Hp} : ∀ (ds : List D) {vs : List V} {F : Hp}, Dj F G → DnA p G ds vs F → RpA p (un F G) ds vs
  | [], _, _, _, h => h.1
  | d :: ds, _, _, dj, h => by
    obtain ⟨v, vs, F1, F2, h1, h2, h3, h4, rfl⟩ := h
    obtain ⟨d1, d2⟩ := dj_un' h4 dj
    exact ⟨v, vs, h1, Rp.mono (un_mono1 same_un1 dj) d (Dn.rp d d1 h2), RpA.mono (un_mono1 (same_un2 h4) dj) ds (DnA.rp ds d2 h3)⟩
theorem DnF.rp {p : Pm} {G : Hp} : ∀ (ds : List (Str × D)) {vs : List (Str × V)} {F : Hp}, Dj F G → DnF p G ds vs F → RpF p (un F G) ds vs
  | [], _, _, _, h => h.1
  | (f, d) :: ds, _, _, dj, h => by
    obtain ⟨v, vs, F1, F2, h1, h2, h3, h4, rfl⟩ := h
    obtain ⟨d1, d2⟩ := dj_un' h4 dj
    exact ⟨v, vs, h1, Rp.mono (un_mono1 same_un1 dj) d (Dn.rp d d1 h2), RpF.mono (un_mono1 (same_un2 h4) dj) ds (DnF.rp ds d2 h3)⟩
end
/-- what is unchangeable owns nothing -/
theorem Dn.of_imm {p : Pm} {G : Hp} : ∀ (d : D) {v : V}, imm d = true → Rp p G d v → Dn p G d v nil
  | .non, _, _, h => ⟨h, rfl⟩
  | .bl _, _, _, h => ⟨h, rfl⟩
  | .int _, _, _, h => ⟨h, rfl⟩
  | .str _, _, _, h => ⟨h, rfl⟩
  | .lst ds, _, i, h => nomatch i
  | .tup ds, _, i, h => .inl ⟨i, h, rfl⟩
  | .scr _, _, i, h => nomatch i
  | .ins c fs, _, i, h => nomatch i
theorem Dn.imm_rp {p : Pm} {G : Hp} : ∀ (d : D) {v : V} {F : Hp}, imm d = true → Dn p G d v F → Rp p G d v ∧ F = nil
  | .non, _, _, _, h => h
  | .bl _, _, _, _, h => h
  | .int _, _, _, _, h => h
  | .str _, _, _, _, h => h
  | .lst ds, _, _, i, h => nomatch i
  | .tup ds, _, _, i, h => by
    rcases h with ⟨h0, h1, h2⟩ | ⟨h0, _⟩
    · exact ⟨h1, h2⟩
    · rw [show immA ds = true from i] at h0; cases h0
  | .scr _, _, _, i, h => nomatch i
  | .ins c fs, _, _, i, h => nomatch i
theorem DnA.imm_rp {p : Pm} {G : Hp} : ∀ (ds : List D) {vs : List V} {F : Hp}, immA ds = true → DnA p G ds vs F → RpA p G ds vs ∧ F = nil
  | [], _, _, _, h => h
  | d :: ds, _, _, i, h => by
    obtain ⟨v, vs, F1, F2, rfl, h2, h3, h4, rfl⟩ := h
    have ii : imm d = true ∧ immA ds = true := by simpa [immA] using i
    obtain ⟨q1, rfl⟩ := Dn.imm_rp d ii.1 h2
    obtain ⟨q2, rfl⟩ := DnA.imm_rp ds ii.2 h3
    exact ⟨⟨v, vs, rfl, q1, q2⟩, rfl⟩
theorem nil_un (F : Hp) : un nil F = F := by
  funext a; rfl
theorem un_nil (F : Hp) : un F nil = F := by
  funext a; unfold un; cases F a <;> rfl
theorem un_assoc (A B C : Hp) : un (un A B) C = un A (un B C) := by
  funext a; unfold un; cases A a <;> rfl
theorem dj_nil {F : Hp} : Dj nil F := fun _ _ h => nomatch h
theorem dj_nil' {F : Hp} : Dj F nil := fun _ _ _ => rfl
theorem DnA.append {p : Pm} {G : Hp} : ∀ {ds es : List D} {vs ws : List V} {F1 F2 : Hp}, DnA p G ds vs F1 → DnA p G es ws F2 → Dj F1 F2 → DnA p G (ds ++ es) (vs ++ ws) (un F1 F2)
  | [], es, vs, ws, F1, F2, h, k, _ => by
    obtain ⟨rfl, rfl⟩ := h
    rw [nil_un]; exact k
  | d :: ds, es, _, ws, _, F2, h, k, dj => by
    obtain ⟨v, vs, A, B, rfl, h1, h2, h3, rfl⟩ := h
    refine ⟨v, vs ++ ws, A, un B F2, rfl, h1, DnA.append h2 k fun a o e => dj a o (same_un2 h3 a o e), fun a o e => un_none.mpr ⟨h3 a o e, dj a o (same_un1 a o e)⟩, un_assoc ..⟩
theorem DnF.append {p : Pm} {G : Hp} : ∀ {ds es : List (Str × D)} {vs ws : List (Str × V)} {F1 F2 : Hp}, DnF p G ds vs F1 → DnF p G es ws F2 → Dj F1 F2 → DnF p G (ds ++ es) (vs ++ ws) (un F1 F2)
  | [], es, vs, ws, F1, F2, h, k, _ => by
    obtain ⟨rfl, rfl⟩ := h
    rw [nil_un]; exact k
  | (f, d) :: ds, es, _, ws, _, F2, h, k, dj => by
    obtain ⟨v, vs, A, B, rfl, h1, h2, h3, rfl⟩ := h
    refine ⟨v, vs ++ ws, A, un B F2, rfl, h1, DnF.append h2 k fun a o e => dj a o (same_un2 h3 a o e), fun a o e => un_none.mpr ⟨h3 a o e, dj a o (same_un1 a o e)⟩, un_assoc ..⟩
theorem DnA.ints {p : Pm} {G : Hp} : ∀ ns : List Int, DnA p G (ns.map enc) (ns.map V.int) nil
  | [] => ⟨rfl, rfl⟩
  | n :: ns => ⟨_, _, nil, nil, rfl, ⟨rfl, rfl⟩, DnA.ints ns, dj_nil, (nil_un nil).symm⟩
theorem DnA.one {p : Pm} {G : Hp} {d : D} {v : V} {F : Hp} (h : Dn p G d v F) : DnA p G [d] [v] F := ⟨v, [], F, nil, rfl, h, ⟨rfl, rfl⟩, dj_nil', (un_nil F).symm⟩
theorem DnF.one {p : Pm} {G : Hp} {f : Str} {d : D} {v : V} {F : Hp} (h : Dn p G d v F) : DnF p G [(f, d)] [(f, v)] F := ⟨v, [], F, nil, rfl, h, ⟨rfl, rfl⟩, dj_nil', (un_nil F).symm⟩
theorem DnA.length {p : Pm} {G : Hp} : ∀ {ds : List D} {vs : List V} {F : Hp}, DnA p G ds vs F → ds.length = vs.length
  | [], _, _, h => by rw [h.1]; rfl
  | d :: ds, _, _, h => by
    obtain ⟨v, vs, F1, F2, rfl, _, h3, _⟩ := h
    simp [DnA.length h3]

/-- a thing of one's own, through and through -/
def dn (d : D) : Rs := ⟨fun p G v F => Dn p G d v F, fun e h => Dn.mono e d h⟩
/-- the same, its place told -/
def dnAt (x : Addr) (d : D) : Rs := ⟨fun p G v F => v = .ref x ∧ Dn p G d v F, fun e h => ⟨h.1, Dn.mono e d h.2⟩⟩

/-- te gives m, new through and through -/
def EvN (p : Pm) (te : TE) (env : List Sl) {α : Type} [Enc α] (m : Option α) : Prop :=
  ∀ x, m = some x → ∀ G0 H0 σ G H, Sts p G0 H0 env σ G H → ∀ Q : VK, (∀ v G' H' N, Gr G G' H H' → Same N H' → (∀ a o, N a = some o → H a = none ∧ G' a = none) → Dn p G' (enc x) v N → Q v H') → te σ H Q
/-- numbers, truths, None -/
class Scal (α : Type) [Enc α] : Prop where
  im : ∀ x : α, imm (enc x) = true
  rp : ∀ {p : Pm} {G G' : Hp} {x : α} {v : V}, Rp p G (enc x) v → Rp p G' (enc x) v
theorem Scal.dn {α : Type} [Enc α] [Scal α] {p : Pm} {G : Hp} {x : α} {v : V} (h : Rp p G (enc x) v) : Dn p G (enc x) v nil := Dn.of_imm _ (Scal.im x) h
instance : Scal Int := ⟨fun _ => rfl, fun h => h⟩
instance : Scal Bool := ⟨fun _ => rfl, fun h => h⟩
instance : Scal Unit := ⟨fun _ => rfl, fun h => h⟩
instance {α : Type} [Enc α] [Scal α] : Scal (Option α) := ⟨fun x => match x with
  | none => rfl
  | some y => Scal.im y, fun {p G G' x v} h => match x, h with
  | none, h => h
  | some y, h => Scal.rp (α := α) (x := y) h⟩
/-- what is unchangeable through and through -/
class Imm (α : Type) [Enc α] : Prop where
  im : ∀ x : α, imm (enc x) = true
instance {α : Type} [Enc α] [Scal α] : Imm α := ⟨Scal.im⟩
instance {α β : Type} [Enc α] [Enc β] [Imm α] [Imm β] : Imm (α × β) := ⟨fun x => by
  show (imm (enc x.1) && (imm (enc x.2) && true)) = true
  rw [Imm.im x.1, Imm.im x.2]; rfl⟩
theorem Gr.none_of {G G' H H' : Hp} (g : Gr G G' H H') {a : Addr} {o : HO} (h : G a = none) (h' : H a = some o) : G' a = none := by
  cases w : G' a with
  | none => rfl
  | some u =>
    have := g.n a u w h
    rw [h'] at this; cases this
/-- G and a new N together -/
theorem Gr.unN {G G' H H' N : Hp} (g : Gr G G' H H') (s : Same N H') (n : ∀ a o, N a = some o → H a = none ∧ G' a = none) : Gr G (un G' N) H H' :=
  ⟨g.g.trans same_un1, un_same g.s s, g.h, fun a o h k => by
    rcases un_some h with h | h
    · exact g.n a o h k
    · exact (n a o h).1⟩
theorem un_comm0 {A B : Hp} (d : Dj A B) : un A B = un B A := by
  funext a
  unfold un
  cases h : A a with
  | none => cases B a <;> rfl
  | some o => rw [d a o h]
section
variable {p : Pm} {env env' : List Sl} {ta tb tc te : TE} {t u tz : TS} {α β γ δ ρ : Type} [Enc α] [Enc β] [Enc γ] [Enc δ] {Po : Post ρ}
/-- unchangeable: new or not -/
theorem en_imm [Imm α] {m : Option α} (h : Ev p false te env m) : EvN p te env m := fun x e G0 H0 σ G H s Q k =>
  h x e G0 H0 σ G H s Q fun v G' H' g r => k v G' H' nil g (fun _ _ z => nomatch z) (fun _ _ z => nomatch z) (Dn.of_imm _ (Imm.im x) r)
theorem DnA.of_imm {p : Pm} {G : Hp} : ∀ {ds : List D} {vs : List V}, immA ds = true → RpA p G ds vs → DnA p G ds vs nil
  | [], _, _, h => ⟨h, rfl⟩
  | d :: ds, _, i, h => by
    obtain ⟨v, vs, rfl, h2, h3⟩ := h
    have ii : imm d = true ∧ immA ds = true := by simpa [immA] using i
    exact ⟨v, vs, nil, nil, rfl, Dn.of_imm d ii.1 h2, DnA.of_imm ii.2 h3, dj_nil, (nil_un nil).symm⟩
theorem immA_map [Imm α] : ∀ xs : List α, immA (xs.map enc) = true
  | [] => rfl
  | x :: xs => by
    show (imm (enc x) && immA (xs.map enc)) = true
    rw [Imm.im x, immA_map xs]; rfl
/-- a new list of what is unchangeable -/
theorem en_own [Imm α] {m : Option (List α)} (h : Ev p true te env m) : EvN p te env m := fun x e G0 H0 σ G H s Q k =>
  h x e G0 H0 σ G H s Q fun v G' H' g r => by
    obtain ⟨l, vs, ds, rfl, e2, h1, h2, h3, h4⟩ := r
    have e3 : ds = x.map enc := by
      injection e2 with e2
      exact e2.symm
    subst e3
    refine k _ G' H' (sing l (.lst vs)) g (fun a o q => ?_) (fun a o q => ?_) ⟨l, _, nil, rfl, DnA.of_imm (immA_map x) h4, rfl, rfl⟩
    · obtain ⟨rfl, rfl⟩ := sing_iff.mp q; exact h3
    · obtain ⟨rfl, rfl⟩ := sing_iff.mp q; exact ⟨h1, h2⟩
theorem EvN.ev {m : Option α} (h : EvN p te env m) : Ev p false te env m := fun x e G0 H0 σ G H s Q k =>
  h x e G0 H0 σ G H s Q fun v G' H' N g sN nN r => k v _ H' (g.unN sN nN) (by
    have dj : Dj N G' := fun a o q => (nN a o q).2
    rw [un_comm0 dj.symm]
    exact Dn.rp _ dj r)
theorem en_sc [Scal α] {m : Option α} (h : Ev p false te env m) : EvN p te env m := fun x e G0 H0 σ G H s Q k =>
  h x e G0 H0 σ G H s Q fun v G' H' g r => k v G' H' nil g (fun _ _ z => nomatch z) (fun _ _ z => nomatch z) (Scal.dn r)
theorem en_ints {m : Option (List Int)} (h : Ev p true te env m) : EvN p te env m := fun x e G0 H0 σ G H s Q k =>
  h x e G0 H0 σ G H s Q fun v G' H' g r => by
    obtain ⟨l, vs, ds, rfl, e2, h1, h2, h3, h4⟩ := r
    have e3 : ds = x.map D.int := by
      injection e2 with e2
      exact e2.symm
    subst e3
    cases RpA.ints h4
    refine k _ G' H' (sing l (.lst (x.map V.int))) g (fun a o q => ?_) (fun a o q => ?_) ⟨l, _, nil, rfl, DnA.ints x, rfl, rfl⟩
    · obtain ⟨rfl, rfl⟩ := sing_iff.mp q; exact h3
    · obtain ⟨rfl, rfl⟩ := sing_iff.mp q; exact ⟨h1, h2⟩
/-- a new list of pairs of numbers is new through and through only if its pairs are: the empty one is -/
theorem en_nil {m : Option (List α)} (h : Ev p true te env m) (hm : ∀ x, m = some x → x = []) : EvN p te env m := fun x e G0 H0 σ G H s Q k =>
  h x e G0 H0 σ G H s Q fun v G' H' g r => by
    obtain ⟨l, vs, ds, rfl, e2, h1, h2, h3, h4⟩ := r
    have e3 : ds = x.map enc := by
      injection e2 with e2
      exact e2.symm
    have ex := hm x e
    subst e3 ex
    cases (show vs = [] from h4)
    refine k _ G' H' (sing l (.lst [])) g (fun a o q => ?_) (fun a o q => ?_) ⟨l, _, nil, rfl, ⟨rfl, rfl⟩, rfl, rfl⟩
    · obtain ⟨rfl, rfl⟩ := sing_iff.mp q; exact h3
    · obtain ⟨rfl, rfl⟩ := sing_iff.mp q; exact ⟨h1, h2⟩
theorem en_if {tt : TT} {m1 : Option Bool} {ma mb : Option α} (h : EvT p tt env m1) (h1 : EvN p ta env ma) (h2 : EvN p tb env mb) : EvN p (tIf tt ta tb) env (m1.bind fun c => if c = true then ma else mb) := fun x e G0 H0 σ G H s Q k => by
  obtain ⟨c, e1, e⟩ := bind_some e
  refine h c e1 G0 H0 σ G H s _ fun G1 H1 g1 => ?_
  cases c with
  | true => exact h1 x e G0 H0 σ G1 H1 (s.step g1) _ fun v G2 H2 N g2 sN nN r => k v G2 H2 N (g1.trans g2) sN (fun a o q => ⟨g1.h.free (nN a o q).1, (nN a o q).2⟩) r
  | false => exact h2 x e G0 H0 σ G1 H1 (s.step g1) _ fun v G2 H2 N g2 sN nN r => k v G2 H2 N (g1.trans g2) sN (fun a o q => ⟨g1.h.free (nN a o q).1, (nN a o q).2⟩) r
/-- things one behind another, each new -/
def EnA (p : Pm) (n : Nat) (ta : TA) (env : List Sl) (m : Option (List D)) : Prop :=
  ∀ x, m = some x → ∀ G0 H0 σ G H, Sts p G0 H0 env σ G H → ∀ Q : List V → Hp → Prop, (∀ vs G' H' N, Gr G G' H H' → Same N H' → (∀ a o, N a = some o → H a = none ∧ G' a = none) → DnA p G' x vs N → x.length = n → Q vs H') → ta σ H Q
theorem ena_nil : EnA p 0 tNil env (some []) := fun x e G0 H0 σ G H s Q k => by
  cases e
  exact k [] G H nil (.refl s.gr.s) (fun _ _ z => nomatch z) (fun _ _ z => nomatch z) ⟨rfl, rfl⟩ rfl
theorem ena_cons {n : Nat} {tr : TA} {ma : Option α} {ms : Option (List D)} (h : EvN p ta env ma) (hr : EnA p n tr env ms) : EnA p (n + 1) (tCons ta tr) env (ma.bind fun x => ms.bind fun ds => some (enc x :: ds)) := fun z e G0 H0 σ G H s Q k => by
  obtain ⟨x, e1, e⟩ := bind_some e
  obtain ⟨ds, e2, e⟩ := bind_some e
  cases e
  refine h x e1 G0 H0 σ G H s _ fun v G1 H1 N1 g1 s1 n1 r1 => ?_
  refine hr ds e2 G0 H0 σ G1 H1 (s.step g1) _ fun vs G2 H2 N2 g2 s2 n2 r2 hl => ?_
  have dj : Dj N1 N2 := fun a o q => by
    cases w : N2 a with
    | none => rfl
    | some u =>
      have := (n2 a u w).1
      rw [s1 a o q] at this; cases this
  refine k _ G2 H2 (un N1 N2) (g1.trans g2) (un_same (s1.trans g2.h) s2) (fun a o q => ?_) ⟨v, vs, N1, N2, rfl, Dn.mono g2.g _ r1, r2, dj, rfl⟩ (by simp [hl])
  rcases un_some q with q | q
  · exact ⟨(n1 a o q).1, g2.none_of (n1 a o q).2 (s1 a o q)⟩
  · exact ⟨g1.h.free (n2 a o q).1, (n2 a o q).2⟩
/-- the object that is laid around them -/
theorem lay_new {G G' H H' N : Hp} {q : Addr} {o : HO} (g : Gr G G' H H') (s : Same N H') (n : ∀ a o, N a = some o → H a = none ∧ G' a = none) (hq : H' q = none) :
    Gr G G' H (upd H' q o) ∧ Same (upd N q o) (upd H' q o) ∧ (∀ a u, upd N q o a = some u → H a = none ∧ G' a = none) ∧ N q = none := by
  have nq : N q = none := s.free hq
  refine ⟨g.trans (.own g.s hq), upd_mono s, fun a u e => ?_, nq⟩
  by_cases c : a = q
  · subst c; exact ⟨g.h.free hq, g.s.free hq⟩
  · rw [upd_ne c] at e; exact n a u e
theorem en_lst {n : Nat} {ta : TA} {m : Option (List D)} {f : List D → Option (List α)} (h : EnA p n ta env m) (hf : ∀ ds xs, m = some ds → f ds = some xs → ds = xs.map enc) (hn : n ≤ 100000 := by decide) : EvN p (tLst ta) env (m.bind f) := fun z e G0 H0 σ G H s Q k => by
  obtain ⟨ds, e1, e⟩ := bind_some e
  refine h ds e1 G0 H0 σ G H s _ fun vs G1 H1 N g1 s1 n1 r1 hl => ⟨by rw [← r1.length, hl]; exact sz_of hn, fun q hq => ?_⟩
  obtain ⟨a1, a2, a3, a4⟩ := lay_new (o := .lst vs) g1 s1 n1 hq
  refine k _ G1 _ _ a1 a2 a3 ?_
  cases hf ds z e1 e
  exact ⟨q, vs, N, rfl, r1, a4, rfl⟩
/-- the tuple that is laid around them: shared if it is unchangeable -/
theorem lay_tup {G G' H H' N : Hp} {q : Addr} {ds : List D} {vs : List V} (g : Gr G G' H H') (s : Same N H') (n : ∀ a o, N a = some o → H a = none ∧ G' a = none) (hq : H' q = none) (r : DnA p G' ds vs N) :
    ∃ G2 N2, Gr G G2 H (upd H' q (.tup vs)) ∧ Same N2 (upd H' q (.tup vs)) ∧ (∀ a u, N2 a = some u → H a = none ∧ G2 a = none) ∧ Dn p G2 (.tup ds) (.ref q) N2 := by
  cases i : immA ds with
  | false =>
    obtain ⟨a1, a2, a3, a4⟩ := lay_new (o := .tup vs) g s n hq
    exact ⟨G', _, a1, a2, a3, .inr ⟨i, q, vs, N, rfl, r, a4, rfl⟩⟩
  | true =>
    obtain ⟨r1, rfl⟩ := DnA.imm_rp ds i r
    exact ⟨_, nil, g.trans (.new g.s hq), (fun _ _ z => nomatch z), (fun _ _ z => nomatch z), .inl ⟨i, ⟨q, vs, rfl, upd_same, RpA.mono (same_new (g.s.free hq)) _ r1⟩, rfl⟩⟩
theorem en_tup2 {ma : Option α} {mb : Option β} (ha : EvN p ta env ma) (hb : EvN p tb env mb) : EvN p (tTup (tCons ta (tCons tb tNil))) env (ma.bind fun x => mb.bind fun y => some (x, y)) := fun z e G0 H0 σ G H s Q k => by
  obtain ⟨x, e1, e⟩ := bind_some e
  obtain ⟨y, e2, e⟩ := bind_some e
  cases e
  refine ena_cons ha (ena_cons hb ena_nil) _ (by rw [e1, e2]; rfl) G0 H0 σ G H s _ fun vs G1 H1 N g1 s1 n1 r1 hl => ⟨by rw [← r1.length, hl]; exact sz_of (by decide), fun q hq => ?_⟩
  obtain ⟨G2, N2, a1, a2, a3, a4⟩ := lay_tup g1 s1 n1 hq r1
  exact k _ G2 _ _ a1 a2 a3 a4
/-- a comprehension whose items are new -/
theorem en_lc {wi : TI} {g : TG} {tt : TT} {vs js : List Nat} {mx : Option (List α)} {c : α → Option Bool} {f : α → Option β} {envI : α → List Sl} (hi : EvI p wi env mx) (hg : ∀ x, Tg p g (enc x) (wipeE env vs) (envI x) js) (hj : ∀ j ∈ js, j ∈ vs)
    (ht : ∀ x, EvT p tt (envI x) (c x)) (he : ∀ x, EvN p te (envI x) (f x)) : EvN p (tLc wi g tt te vs) env (mx.bind fun xs => lc? c f xs) := fun z e G0 H0 σ G H s Q k => by
  obtain ⟨xs, e1, e⟩ := bind_some e
  unfold lc? at e
  split at e
  · rename_i hlen
    refine hi xs e1 G0 H0 σ G H s _ fun J G1 H1 g1 it => fun Dl hD => ?_
    have s1 := s.step g1
    have hn0 := g1.s.free hD
    refine ⟨fun i m H' => m = xs.length - i ∧ i ≤ xs.length ∧ ∃ G' acc ys zs N, Gr G1 G' H1 H' ∧ G' Dl = none ∧ H' Dl = some (.lst acc) ∧ DnA p G' (ys.map enc) acc N ∧ Same N H' ∧ (∀ a o, N a = some o → H1 a = none ∧ G' a = none ∧ a ≠ Dl) ∧ ys.length ≤ i ∧ lcM c f (xs.drop i) = some zs ∧ z = ys ++ zs,
      ⟨_, rfl, Nat.zero_le _, G1, [], [], z, nil, (Gr.refl g1.s).mut hD hn0, hn0, upd_same, (show DnA p G1 (([] : List β).map enc) [] nil from ⟨rfl, rfl⟩), (fun _ _ q => nomatch q), (fun _ _ q => nomatch q), Nat.le_refl _, e, rfl⟩, ?_⟩
    rintro i m H' ⟨rfl, hle, G', acc, ys, zs, N, g2, hG, hA, rA, sN, nN, hy, hz, ez⟩
    obtain ⟨go, stop⟩ := it G' H' g2.g g2.s i
    by_cases hlt : i < xs.length
    · have hx : xs[i]? = some xs[i] := by simp [hlt]
      obtain ⟨gi, yi⟩ := go (enc xs[i]) (by rw [List.getElem?_map, hx]; rfl)
      rw [List.drop_eq_getElem_cons hlt] at hz
      obtain ⟨b, hc, hz⟩ := bind_some hz
      refine .inr ⟨gi, fun H'' => ∃ G'' acc ys zs N, Gr G1 G'' H1 H'' ∧ G'' Dl = none ∧ H'' Dl = some (.lst acc) ∧ DnA p G'' (ys.map enc) acc N ∧ Same N H'' ∧ (∀ a o, N a = some o → H1 a = none ∧ G'' a = none ∧ a ≠ Dl) ∧ ys.length ≤ i + 1 ∧ lcM c f (xs.drop (i + 1)) = some zs ∧ z = ys ++ zs,
        fun H'' q => ⟨xs.length - (i + 1), by omega, rfl, hlt, q⟩, fun x H2 y => ?_⟩
      obtain ⟨G2, g3, r3⟩ := yi x H2 y
      have g23 := g2.trans g3
      have s2 := (s1.step g23).wipes vs
      have hG2 := g3.none_of hG hA
      have hA2 := g3.h _ _ hA
      refine hg xs[i] G0 H0 (wipe σ vs) G2 H2 x s2 r3 _ fun σ' s3 w3 => ⟨?_, ?_⟩
      · rw [w3 vs hj, wipe_wipe]
      · refine ht xs[i] b hc G0 H0 σ' G2 H2 s3 _ fun G3 H3 g4 => ?_
        have hG3 := g4.none_of hG2 hA2
        have hA3 := g4.h _ _ hA2
        have sN3 := (sN.trans g3.h).trans g4.h
        have nN3 : ∀ a o, N a = some o → H1 a = none ∧ G3 a = none ∧ a ≠ Dl := fun a o q => ⟨(nN a o q).1, (g3.trans g4).none_of (nN a o q).2.1 (sN a o q), (nN a o q).2.2⟩
        cases b with
        | false => exact ⟨G3, acc, ys, zs, N, g23.trans g4, hG3, hA3, DnA.mono (g3.g.trans g4.g) _ rA, sN3, nN3, Nat.le_succ_of_le hy, hz, ez⟩
        | true =>
          obtain ⟨y1, hf, hz⟩ := bind_some hz
          obtain ⟨zs', hzs, hz⟩ := bind_some hz
          cases hz
          refine he xs[i] y1 hf G0 H0 σ' G3 H3 (s3.step g4) _ fun u G4 H4 M g5 sM nM r5 => ⟨acc, g5.h _ _ hA3, ?_, ?_⟩
          · have l1 := rA.length
            rw [List.length_map] at l1
            exact Nat.lt_of_le_of_lt (show acc.length ≤ 100000 by omega) (by decide)
          · have hG4 := g5.none_of hG3 hA3
            have dj : Dj N M := fun a o q => by
              cases w : M a with
              | none => rfl
              | some v =>
                have := (nM a v w).1
                rw [sN3 a o q] at this; cases this
            have ne : ∀ a o, un N M a = some o → a ≠ Dl := fun a o q => by
              rcases un_some q with q | q
              · exact (nN a o q).2.2
              · intro c; subst c
                have := (nM a o q).1
                rw [hA3] at this; cases this
            refine ⟨G4, acc ++ [u], ys ++ [y1], zs', un N M, ((g23.trans g4).trans g5).mut hD hG4, hG4, upd_same, ?_, fun a o q => ?_, fun a o q => ?_, by simp; omega, hzs, by simp [ez]⟩
            · rw [List.map_append]
              exact DnA.append (DnA.mono ((g3.g.trans g4.g).trans g5.g) _ rA) (.one r5) dj
            · rw [upd_ne (ne a o q)]
              exact un_same (sN3.trans g5.h) sM a o q
            · refine ⟨?_, ?_, ne a o q⟩
              · rcases un_some q with q | q
                · exact (nN a o q).1
                · exact (g23.trans g4).h.free (nM a o q).1
              · rcases un_some q with q | q
                · exact g5.none_of (nN3 a o q).2.1 (sN3 a o q)
                · exact (nM a o q).2
    · have ei : i = xs.length := by omega
      subst ei
      rw [List.drop_length] at hz
      cases hz
      rw [List.append_nil] at ez
      subst ez
      refine .inl ⟨stop (by simp) (by simp), ?_⟩
      have nD : N Dl = none := by
        cases w : N Dl with
        | none => rfl
        | some v => exact absurd rfl (nN Dl v w).2.2
      refine k _ G' H' (upd N Dl (.lst acc)) (g1.trans g2) (fun a o q => ?_) (fun a o q => ?_) ⟨Dl, acc, N, rfl, rA, nD, rfl⟩
      · by_cases c : a = Dl
        · subst c; rw [upd_same] at q; cases q; exact hA
        · rw [upd_ne c] at q; exact sN a o q
      · by_cases c : a = Dl
        · subst c; exact ⟨g1.h.free hD, hG⟩
        · rw [upd_ne c] at q; exact ⟨g1.h.free (nN a o q).1, (nN a o q).2.1⟩
  · cases e
theorem k_asgN {i : Nat} {me : Option α} {rest : α → Option ρ} (h : EvN p te env me) (k : ∀ x, Bk p tz (env.set i (.rs (dn (enc x)))) (rest x) Po) : Bk p (tSeq (tAsg te (gName i)) tz) env (me.bind rest) Po := fun r e G0 H0 σ G H st D q => by
  obtain ⟨x, e1, e⟩ := bind_some e
  refine h x e1 G0 H0 σ G H st _ fun v G1 H1 N g1 sN nN r1 => ?_
  exact k x r e G0 H0 _ G1 H1 (st.set_rs g1 r1 sN nN) D (Po.mono g1.g q)
/-- it returns what is new through and through -/
def pD (p : Pm) (β : Type) [Enc β] : Post β where
  P := fun y G0 H0 _ D => ∀ v G' H' N, Gr G0 G' H0 H' → Same N H' → (∀ a o, N a = some o → H0 a = none ∧ G' a = none) → Dn p G' (enc y) v N → D.rt v H'
  mono := fun _ h => h
theorem k_retD {me : Option β} (h : EvN p te env me) : Bk p (tRet te) env me (pD p β) := fun r e G0 H0 σ G H st D q =>
  h r e G0 H0 σ G H st _ fun v G1 H1 N g1 sN nN r1 => q v G1 H1 N (st.gr.trans g1) sN (fun a o z => ⟨st.gr.h.free (nN a o z).1, (nN a o z).2⟩) r1
theorem k_ifD {tt : TT} {mc : Option Bool} {ma mb : Option β} (h : EvT p tt env mc) (h1 : Bk p t env ma (pD p β)) (h2 : Bk p tz env mb (pD p β)) : Bk p (tSeq (tIfS tt t tNext) tz) env (mc.bind fun c => if c = true then ma else mb) (pD p β) := fun r e G0 H0 σ G H st D q => by
  obtain ⟨c, e1, e⟩ := bind_some e
  refine h c e1 G0 H0 σ G H st _ fun G1 H1 g1 => ?_
  cases c with
  | true => exact h1 r e G0 H0 σ G1 H1 (st.step g1) _ q
  | false => exact h2 r e G0 H0 σ G1 H1 (st.step g1) D q
/-- the list in slot i, of numbers, is new through and through -/
def spD (p : Pm) {τ : Type} (ea : τ → List D) (f : τ → Option γ) : Sp := fun vs H Q _ => ∃ G x z, Same G H ∧ RpA p G (ea x) vs ∧ f x = some z ∧ ∀ v G' H' N, Gr G G' H H' → Same N H' → (∀ a o, N a = some o → H a = none ∧ G' a = none) → Dn p G' (enc z) v N → Q v H'
def spD1 (p : Pm) (f : α → Option γ) : Sp := spD p (fun x => [enc x]) f
def spD2 (p : Pm) (f : α → β → Option γ) : Sp := spD p (fun x : α × β => [enc x.1, enc x.2]) fun x => f x.1 x.2
def spD3 (p : Pm) (f : α → β → δ → Option γ) : Sp := spD p (fun x : α × β × δ => [enc x.1, enc x.2.1, enc x.2.2]) fun x => f x.1 x.2.1 x.2.2
theorem en_call {τ : Type} {ea : τ → List D} {f : τ → Option γ} {E : XK} {ta : TA} {m : Option τ} (h : EvA p ta env (m.bind fun x => some (ea x))) : EvN p (tCall (spD p ea f) [] E ta) env (m.bind fun x => f x) := fun z e G0 H0 σ G H s Q k => by
  obtain ⟨x, e1, e⟩ := bind_some e
  refine h (ea x) (by rw [e1]; rfl) G0 H0 σ G H s _ fun vs G1 H1 g1 r1 => ?_
  rw [List.append_nil]
  exact ⟨G1, x, z, g1.s, r1, e, fun v G2 H2 N g2 sN nN r2 => k v G2 H2 N (g1.trans g2) sN (fun a o q => ⟨g1.h.free (nN a o q).1, (nN a o q).2⟩) r2⟩
theorem en_call1 {f : α → Option γ} {E : XK} {ma : Option α} (ha : Ev p false ta env ma) : EvN p (tCall (spD1 p f) [] E (tCons ta tNil)) env (ma.bind fun x => f x) := fun z e => en_call (m := ma) (fun x ex => ea_cons ha ea_nil x (by
  obtain ⟨y, e1, e2⟩ := bind_some ex; cases e2; rw [e1]; rfl)) z e
theorem en_call2 {f : α → β → Option γ} {E : XK} {ma : Option α} {mb : Option β} (ha : Ev p false ta env ma) (hb : Ev p false tb env mb) : EvN p (tCall (spD2 p f) [] E (tCons ta (tCons tb tNil))) env (ma.bind fun x => mb.bind fun y => f x y) := fun z e => by
  obtain ⟨x, e1, e⟩ := bind_some e
  obtain ⟨y, e2, e⟩ := bind_some e
  exact en_call (m := some (x, y)) (fun w ew => ea_cons ha (ea_cons hb ea_nil) w (by rw [e1, e2]; exact ew)) z e
theorem en_call3 {f : α → β → δ → Option γ} {E : XK} {ma : Option α} {mb : Option β} {mc : Option δ} (ha : Ev p false ta env ma) (hb : Ev p false tb env mb) (hc : Ev p false tc env mc) :
    EvN p (tCall (spD3 p f) [] E (tCons ta (tCons tb (tCons tc tNil)))) env (ma.bind fun x => mb.bind fun y => mc.bind fun w => f x y w) := fun z e => by
  obtain ⟨x, e1, e⟩ := bind_some e
  obtain ⟨y, e2, e⟩ := bind_some e
  obtain ⟨x3, e3, e⟩ := bind_some e
  exact en_call (m := some (x, y, x3)) (fun w ew => ea_cons ha (ea_cons hb (ea_cons hc ea_nil)) w (by rw [e1, e2, e3]; exact ew)) z e
variable {P : Program} {w : World} {mg : Str → Option Value} {base : Heap}
theorem def_okD {τ : Type} {ea : τ → List D} {f : τ → Option γ} {x qual : Str} {stm : Stmt} {fa : Addr} {fd : FuncData} {N ps : List Str} {k n : Nat} (F : Fun p.K x qual stm fa fd) (S : FnScope N ps (defScope stm)) (hps : ∀ a, (ea a).length = ps.length) (hN : N.length = ps.length + n)
    (body : ∀ (cdv : Value) (A : Around) (outer : List Env) (s : Shared) (H : Hp) (E : XK), Room k (A.deeper (PyProof.Rows.envOfC qual (defScope stm) s.heap.objs.size fa cdv)) →
      ∃ t, PSs (cxOf CX0 P w p.K mg base N qual (defScope stm) fa cdv A outer s H E).nox (defBody stm) t ∧ ∀ a, Bk p t ((ea a).map Sl.va ++ List.replicate n .fr) (f a) (pD p γ)) : FnOk P w p.K mg base CX0 (k + 1) fa fd ps (spD p ea f) := by
  refine F.ok S (fun vs H Q E h => ?_) fun cdv A outer s H vs Q E hr h => ?_
  · obtain ⟨G, a, z, _, r, _⟩ := h
    rw [← r.length, hps]
  · obtain ⟨G, a, z, sg, r, e, q⟩ := h
    obtain ⟨t, h1, h2⟩ := body cdv A outer s H E hr
    exact ⟨t, h1, h2 a z e G H _ G H (sts_start sg r (by rw [hN, hps])) _ q⟩

/-! ### objects: what a class has; fields; __init__ -/
structure ClF (p : Pm) (mg : Str → Option Value) (c : Nat) (x : Str) : Prop where
  cls : Cls p.K (p.cl c)
  at_ : mg x = some (.ref (p.cl c))
  ha : PySem.W.findIn p.K (.ref (p.cl c)) "__class__" = some (some (.builtin "object.__class__"))
  hn : PySem.W.specialIn p.K (.builtin "object.__class__") "__get__" = some (some (.builtin "getset_descriptor.__get__"))
  htk : PySem.W.takesIn p.K (.builtin "object.__class__") = some true
  hm : PySem.W.mroIn p.K (p.cl c) (.type "object") = some true
theorem lookup_rp {G : Hp} {f : Str} {d : D} : ∀ {fs : List (Str × D)} {xs : List (Str × V)}, RpF p G fs xs → fs.lookup f = some d → ∃ v, xs.lookup f = some v ∧ Rp p G d v
  | [], _, _, e => nomatch e
  | (g, d') :: fs, _, h, e => by
    obtain ⟨v, vs, rfl, h1, h2⟩ := h
    rw [List.lookup_cons] at e ⊢
    cases q : (f == g) with
    | true => rw [q] at e; cases e; exact ⟨v, rfl, h1⟩
    | false => rw [q] at e; exact lookup_rp h2 e
/-- o.f, o plain data -/
theorem ev_fld {f : Str} {ma : Option α} {get : α → Option β} (h : Ev p false ta env ma) (hf : ∀ x y, get x = some y → ∃ c fs, enc x = .ins c fs ∧ fs.lookup f = some (enc y) ∧ Cls p.K (p.cl c) ∧ NoAttr p.K (p.cl c) f) :
    Ev p false (tFld p.K ta f) env (ma.bind fun x => get x) := fun z e G0 H0 σ G H s Q k => by
  obtain ⟨x, e1, e⟩ := bind_some e
  obtain ⟨c, fs, q1, q2, q3, q4⟩ := hf x z e
  refine h x e1 G0 H0 σ G H s _ fun v G1 H1 g1 r1 => ?_
  rw [q1] at r1
  obtain ⟨a, dx, xs, rfl, h1, h2⟩ := r1
  obtain ⟨u, h3, h4⟩ := lookup_rp h2 q2
  exact ⟨a, _, dx, xs, u, rfl, g1.s _ _ h1, q3, q4, h3, k u G1 H1 g1 h4⟩
/-- isinstance(o, C) -/
theorem ev_isiO {c' : Nat} {ma : Option α} {f : α → Option Bool} (h : Ev p false ta env ma)
    (hf : ∀ x b, f x = some b → ∃ c fs nm, enc x = .ins c fs ∧ ClF p mg c nm ∧ PySem.W.kitOne p.K (.ref (p.cl c)) (.ref (p.cl c')) = some b) :
    Ev p false (tCB (rIsi p.K) (tCons ta (tCons (tC (.ref (p.cl c'))) tNil))) env (ma.bind fun x => f x) := fun z e G0 H0 σ G H s Q k => by
  obtain ⟨x, e1, e⟩ := bind_some e
  obtain ⟨c, fs, nm, q1, q2, q3⟩ := hf x z e
  refine h x e1 G0 H0 σ G H s _ fun v G1 H1 g1 r1 => ?_
  rw [q1] at r1
  obtain ⟨a, dx, xs, rfl, h1, h2⟩ := r1
  exact ⟨_, _, _, _, z, rfl, .own _, .base (.ins (g1.s _ _ h1) q2.cls q2.ha q2.hn q2.htk q2.hm), q3, k _ G1 H1 g1 rfl⟩
theorem putF_new {G : Hp} {f : Str} {v : V} : ∀ {fs : List (Str × D)} {xs : List (Str × V)} {F : Hp}, DnF p G fs xs F → fs.lookup f = none → putF f v xs = xs ++ [(f, v)]
  | [], _, _, h, _ => by rw [h.1]; rfl
  | (g, d) :: fs, _, _, h, e => by
    obtain ⟨u, us, A, B, rfl, h1, h2, _⟩ := h
    rw [List.lookup_cons] at e
    cases q : (f == g) with
    | true => rw [q] at e; cases e
    | false =>
      rw [q] at e
      have hne : ¬ g = f := fun c => by rw [c] at q; simp at q
      show (if g = f then _ else (g, u) :: putF f v us) = _
      rw [if_neg hne, putF_new h2 e]
      rfl
theorem dnf_len {G : Hp} : ∀ {fs : List (Str × D)} {xs : List (Str × V)} {F : Hp}, DnF p G fs xs F → xs.length = fs.length
  | [], _, _, h => by rw [h.1]; rfl
  | (g, d) :: fs, _, _, h => by
    obtain ⟨u, us, A, B, rfl, h1, h2, _⟩ := h
    simp [dnf_len h2]
/-- self.f = e, f new -/
theorem k_fldN {x : Addr} {c : Nat} {fs : List (Str × D)} {f : Str} {me : Option α} {rest : α → Option ρ} (h0 : env[0]? = some (.rs (dnAt x (.ins c fs)))) (hc : Cls p.K (p.cl c)) (hn : NoAttr p.K (p.cl c) f) (hl : fs.lookup f = none) (hs : fs.length < 1000) (h : EvN p te env me)
    (k : ∀ y, Bk p tz (env.set 0 (.rs (dnAt x (.ins c (fs ++ [(f, enc y)]))))) (rest y) Po) : Bk p (tSeq (sFld p.K (tVar 0) te f) tz) env (me.bind rest) Po := fun r e G0 H0 σ G H st D q => by
  obtain ⟨y, e1, e⟩ := bind_some e
  refine h y e1 G0 H0 σ G H st _ fun v G1 H1 N g1 sN nN r1 => ?_
  refine st.writeG g1 h0 fun v0 F b1 b2 b3 b4 wr => ?_
  obtain ⟨rfl, a, dx, xs, F', ea, d1, d2, rfl⟩ := b2
  cases ea
  have hH : H1 x = some (.ins (p.cl c) dx xs) := g1.h _ _ (b3 _ _ upd_same)
  have djN : ∀ a o, N a = some o → upd F' x (.ins (p.cl c) dx xs) a = none := fun a o z => b3.free (nN a o z).1
  have nx : ∀ a o, N a = some o → a ≠ x ∧ F' a = none := fun a o z => by
    have q := djN a o z
    by_cases cx : a = x
    · subst cx; rw [upd_same] at q; cases q
    · rw [upd_ne cx] at q; exact ⟨cx, q⟩
  refine ⟨.ref x, b1, x, _, dx, xs, rfl, hH, hc, hn, by rw [dnf_len d1]; exact hs, ?_⟩
  rw [putF_new d1 hl]
  have es : σ = σ.set 0 (some (.ref x)) := by
    obtain ⟨hi, he⟩ := List.getElem?_eq_some_iff.mp b1
    rw [← he, List.set_getElem_self]
  rw [es]
  have nF : ∀ a, un F' N a = none ↔ F' a = none ∧ N a = none := fun a => un_none
  have ux : un F' N x = none := (nF x).mpr ⟨d2, by
    cases w : N x with
    | none => rfl
    | some u => exact absurd rfl (nx x u w).1⟩
  refine k y r e G0 H0 _ G1 _ (wr (dnAt x (.ins c (fs ++ [(f, enc y)]))) (.ref x) (upd (un F' N) x (.ins (p.cl c) dx (xs ++ [(f, v)]))) (upd H1 x (.ins (p.cl c) dx (xs ++ [(f, v)]))) ⟨fun a o z => ?_, fun a z1 z2 => ?_, fun a o z1 z2 => ?_⟩ ⟨rfl, x, dx, _, un F' N, rfl, d1.append (.one r1) (fun a o q => ?_), ux, rfl⟩) D (Po.mono g1.g q)
  · by_cases cx : a = x
    · subst cx; rw [upd_same] at z ⊢; exact z
    · rw [upd_ne cx] at z ⊢
      rcases un_some z with z | z
      · have : upd F' x (.ins (p.cl c) dx xs) a = some o := by rw [upd_ne cx]; exact z
        exact g1.h _ _ (b3 _ _ this)
      · exact sN _ _ z
  · have cx : a ≠ x := fun cx => by subst cx; rw [upd_same] at z1; cases z1
    rw [upd_ne cx]
  · have cx : a ≠ x := fun cx => by subst cx; rw [upd_same] at z2; cases z2
    rw [upd_ne cx] at z1 z2
    rcases un_some z1 with z1 | z1
    · rw [z2] at z1; cases z1
    · exact nN a o z1
  · cases w : N a with
    | none => rfl
    | some u => rw [(nx a u w).2] at q; cases q
/-- __init__ of the class c: what it makes of x -/
def spI (p : Pm) (c : Nat) {τ : Type} (ea : τ → List D) (f : τ → Option γ) : Sp := fun vs H Q _ => ∃ G Hb x dx a z ws, vs = .ref x :: ws ∧ H = upd (upd Hb dx (.own x)) x (.ins (p.cl c) dx []) ∧ Hb x = none ∧ Hb dx = none ∧ dx ≠ x ∧ Same G Hb ∧ RpA p G (ea a) ws ∧ f a = some z ∧
  ∀ G' H' F', Gr G G' Hb H' → Same F' H' → (∀ a o, F' a = some o → Hb a = none ∧ G' a = none) → Dn p G' (enc z) (.ref x) F' → Q .non H'
/-- what the fields have become -/
def pI (p : Pm) (x : Addr) (γ : Type) [Enc γ] : Post γ where
  P := fun z G0 H0 _ D => ∀ σ' G' H' F', Gr G0 G' H0 H' → Same F' H' → (∀ a o, F' a = some o → H0 a = none ∧ G' a = none) → Dn p G' (enc z) (.ref x) F' → D.nx σ' H'
  mono := fun _ h => h
theorem k_endI {x : Addr} {z : γ} {d : D} (h0 : env[0]? = some (.rs (dnAt x d))) (hd : d = enc z) : Bk p tNext env (some z) (pI p x γ) := fun r e G0 H0 σ G H st D q => by
  cases e
  obtain ⟨Fs, f⟩ := st.rs
  obtain ⟨v, a1, ⟨rfl, a2⟩, a3, a4⟩ := f.wh 0 _ h0
  exact q σ G H (Fs 0) st.gr a3 (fun a o z => ⟨(a4 a o z).2, (a4 a o z).1⟩) (hd ▸ a2)
theorem init_ok {τ : Type} {c : Nat} {ea : τ → List D} {f : τ → Option γ} {x qual : Str} {stm : Stmt} {fa : Addr} {fd : FuncData} {N ps : List Str} {k n : Nat} (F : Fun p.K x qual stm fa fd) (S : FnScope N ps (defScope stm)) (hps : ∀ a, (ea a).length + 1 = ps.length) (hN : N.length = ps.length + n)
    (body : ∀ (cdv : Value) (A : Around) (outer : List Env) (s : Shared) (H : Hp) (E : XK), Room k (A.deeper (PyProof.Rows.envOfC qual (defScope stm) s.heap.objs.size fa cdv)) →
      ∃ t, PSs (cxOf CX0 P w p.K mg base N qual (defScope stm) fa cdv A outer s H E).nox (defBody stm) t ∧ ∀ y a, Bk p t (.rs (dnAt y (.ins c [])) :: ((ea a).map Sl.va ++ List.replicate n .fr)) (f a) (pI p y γ)) : FnOk P w p.K mg base CX0 (k + 1) fa fd ps (spI p c ea f) := by
  refine F.ok S (fun vs H Q E h => ?_) fun cdv A outer s H vs Q E hr h => ?_
  · obtain ⟨G, Hb, y, dx, a, z, ws, rfl, _, _, _, _, _, r, _⟩ := h
    rw [List.length_cons, ← r.length, hps]
  · obtain ⟨G, Hb, y, dx, a, z, ws, rfl, rfl, n1, n2, n3, sg, r, e, q⟩ := h
    obtain ⟨t, h1, h2⟩ := body cdv A outer s _ E hr
    refine ⟨t, h1, h2 y a z e G Hb _ G _ ?_ _ fun σ' G' H' F' g s n d => q G' H' F' g s n d⟩
    have l1 := r.length
    have l2 := hps a
    have sH : Same Hb (upd (upd Hb dx (.own y)) y (.ins (p.cl c) dx [])) := (same_new n2).trans (same_new (by rw [upd_ne (Ne.symm n3)]; exact n1))
    have st := sts_start (N := N.tail) (n := n) sg r (by rw [List.length_tail, hN]; omega)
    have es : L2.start N (V.ref y :: ws) = some (V.ref y) :: L2.start N.tail ws := by
      unfold L2.start
      rw [List.map_cons, List.cons_append, List.length_cons, List.length_tail, Nat.sub_sub, Nat.add_comm 1]
    rw [es]
    obtain ⟨gr, len, va, Fs, wh, ap⟩ := st
    have norm : ∀ (i : Nat) r', ((ea a).map Sl.va ++ List.replicate n Sl.fr)[i]? = some (.rs r') → False := fun i r' e => by
      by_cases c : i < (ea a).length
      · rw [List.getElem?_append_left (by simpa using c), List.getElem?_map] at e
        cases q : (ea a)[i]? with
        | none => rw [q] at e; cases e
        | some d' => rw [q] at e; cases e
      · rw [List.getElem?_append_right (by simp; omega), List.getElem?_replicate] at e
        split at e <;> cases e
    refine ⟨⟨.refl _, sg.trans sH, sH, fun a o h k => by rw [h] at k; cases k⟩, by simp [len], fun i d e => ?_, fun _ => sing y (.ins (p.cl c) dx []), fun i r' e => ?_, fun i j r1 r2 a o nij e e' => ?_⟩
    · cases i with
      | zero => cases e
      | succ i => exact va i d e
    · cases i with
      | zero =>
        cases e
        refine ⟨.ref y, rfl, ⟨rfl, y, dx, [], nil, rfl, ⟨rfl, rfl⟩, rfl, rfl⟩, fun a o z => ?_, fun a o z => ?_⟩
        · obtain ⟨rfl, rfl⟩ := sing_iff.mp z; exact upd_same
        · obtain ⟨rfl, rfl⟩ := sing_iff.mp z; exact ⟨sg.free n1, n1⟩
      | succ i => exact (norm i r' e).elim
    · cases i with
      | zero =>
        cases j with
        | zero => exact absurd rfl nij
        | succ j => exact (norm j r2 e').elim
      | succ i => exact (norm i r1 e).elim
/-- C(..) -/
theorem en_make {τ : Type} {c : Nat} {ea : τ → List D} {f : τ → Option γ} {E : XK} {ta : TA} {m : Option τ} (h : EvA p ta env (m.bind fun x => some (ea x))) : EvN p (tMake (p.cl c) (spI p c ea f) [] E ta) env (m.bind fun x => f x) := fun z e G0 H0 σ G H s Q k => by
  obtain ⟨x, e1, e⟩ := bind_some e
  refine h (ea x) (by rw [e1]; rfl) G0 H0 σ G H s _ fun vs G1 H1 g1 r1 => fun y dx n1 n2 n3 => ?_
  rw [List.append_nil]
  exact ⟨G1, H1, y, dx, x, z, vs, rfl, rfl, n1, n2, n3, g1.s, r1, e, fun G2 H2 N g2 sN nN r2 => ⟨rfl, k _ G2 H2 N (g1.trans g2) sN (fun a o q => ⟨g1.h.free (nN a o q).1, (nN a o q).2⟩) r2⟩⟩
def spI1 (p : Pm) (c : Nat) (f : α → Option γ) : Sp := spI p c (fun x => [enc x]) f
def spI2 (p : Pm) (c : Nat) (f : α → β → Option γ) : Sp := spI p c (fun x : α × β => [enc x.1, enc x.2]) fun x => f x.1 x.2
theorem en_make1 {c : Nat} {f : α → Option γ} {E : XK} {ma : Option α} (ha : Ev p false ta env ma) : EvN p (tMake (p.cl c) (spI1 p c f) [] E (tCons ta tNil)) env (ma.bind fun x => f x) := fun z e => by
  obtain ⟨x, e1, e⟩ := bind_some e
  exact en_make (m := some x) (fun w ew => ea_cons ha ea_nil w (by rw [e1]; exact ew)) z e
theorem en_make2 {c : Nat} {f : α → β → Option γ} {E : XK} {ma : Option α} {mb : Option β} (ha : Ev p false ta env ma) (hb : Ev p false tb env mb) : EvN p (tMake (p.cl c) (spI2 p c f) [] E (tCons ta (tCons tb tNil))) env (ma.bind fun x => mb.bind fun y => f x y) := fun z e => by
  obtain ⟨x, e1, e⟩ := bind_some e
  obtain ⟨y, e2, e⟩ := bind_some e
  exact en_make (m := some (x, y)) (fun w ew => ea_cons ha (ea_cons hb ea_nil) w (by rw [e1, e2]; exact ew)) z e
end
end PU

set_option Elab.async false
set_option maxRecDepth 100000
set_option linter.all false
/-! PU8: the answers as data; classes by name. -/
namespace PU
open PySem L2
open Enc
inductive Ans where
  | least (stay : List Int) (rows : List (List Int × Int))
  | stuck (one other : Int)
  | thrifty
  | dear (more : Int)
  | wrong (step : Int)
  | round (stay : List Int) (papers : List (List (List Int × Int)))
deriving DecidableEq
instance : Enc Ans := ⟨fun x => match x with
  | .least s r => .ins 0 [("stay", enc s), ("rows", enc r)]
  | .stuck a b => .ins 1 [("one", enc a), ("other", enc b)]
  | .thrifty => .ins 2 []
  | .dear a => .ins 3 [("more", enc a)]
  | .wrong a => .ins 4 [("step", enc a)]
  | .round s p => .ins 5 [("stay", enc s), ("papers", enc p)]⟩
def Ans.stay? : Ans → Option (List Int)
  | .least s _ => some s
  | .round s _ => some s
  | _ => none
def Ans.rows? : Ans → Option (List (List Int × Int))
  | .least _ r => some r
  | _ => none
def Ans.one? : Ans → Option Int
  | .stuck a _ => some a
  | _ => none
def Ans.other? : Ans → Option Int
  | .stuck _ a => some a
  | _ => none
def Ans.more? : Ans → Option Int
  | .dear a => some a
  | _ => none
def Ans.step? : Ans → Option Int
  | .wrong a => some a
  | _ => none
def Ans.papers? : Ans → Option (List (List (List Int × Int)))
  | .round _ p => some p
  | _ => none
def Ans.cls : Ans → Nat
  | .least .. => 0
  | .stuck .. => 1
  | .thrifty => 2
  | .dear .. => 3
  | .wrong .. => 4
  | .round .. => 5
theorem ans_cls (x : Ans) : ∃ fs, enc x = .ins x.cls fs := by
  cases x <;> exact ⟨_, rfl⟩
/-- isinstance(x, c), of the classes cs that are here -/
def Ans.isi (cs : List Nat) (c : Nat) (x : Ans) : Option Bool := if x.cls ∈ cs then some (decide (x.cls = c)) else none
/-- isinstance(x, Answer) -/
def Ans.isiA (cs : List Nat) (x : Ans) : Option Bool := if x.cls ∈ cs then some true else none

theorem lk0 {β : Type} {k : Str} {v : β} {r : List (Str × β)} : List.lookup k ((k, v) :: r) = some v := by
  rw [List.lookup_cons, show (k == k) = true from beq_self_eq_true k]
theorem lk1 {β : Type} {k g : Str} {v : β} {r : List (Str × β)} (h : (k == g) = false) : List.lookup k ((g, v) :: r) = List.lookup k r := by
  rw [List.lookup_cons, h]
/-- a class by its name: how it is made -/
structure Mak (P : Program) (w : World) (K : PySem.W.Frag) (mg : Str → Option Value) (base : Heap) (x : Str) (C : Addr) (k : Nat) (ps : List Str) (sp : Sp) : Prop where
  ex : ∃ f fd, Mk K C f ∧ FnOk P w K mg base CX0 k f fd ps sp ∧ mg x = some (.ref C) ∧ Binds K fd ps []
theorem pe_mak {X : Cx} {x : Str} {C : Addr} {k : Nat} {ps : List Str} {sp : Sp} {p pos : Pos} {e : Expr} {es : List Expr} {t : TA} (c : Mak X.prog X.w X.K X.mg X.base x C k ps sp) (hr : Room (k + 1) X.A) (hg : Gl X x) (ha : PA X (e :: es) t)
    (hdb : (x == ("__debug__" : Str)) = false := by decide) (he : starEach (e :: es) X.env = (false, eval e X.env) :: starEach es X.env := by rfl) (hpl : (backTo pos (starEach es X.env)).any (·.1) = false := by rfl) :
    PE X (.Call (.Name x p) (e :: es) [] pos) (tMake C sp [] E0 t) := by
  obtain ⟨f, fd, M, F, hm, hb⟩ := c.ex
  exact pe_make M F hr hg hm hb .nil pass0 ha hdb he hpl
theorem xe_fld (K) {X : Cx} {e : Expr} {f : Str} {pos : Pos} {ta : TE} (he : PE X e ta) (hb : attributeBase e f X.env (eval e X.env) = eval e X.env := by rfl) (hK : X.K = K := by rfl) : PE X (.Attribute e f pos) (tFld K ta f) := by
  subst hK; exact pe_fld he hb
/-- a method of the text (qual: C.m) -/
structure Dm (K : PySem.W.Frag) (C : Addr) (m qual : Str) (st : Stmt) : Prop where
  ex : ∃ f fd, Fun K m qual st f fd ∧ Meth K C m f
/-- the __init__ of the text -/
structure Di (K : PySem.W.Frag) (C : Addr) (qual : Str) (st : Stmt) : Prop where
  ex : ∃ f fd, Fun K "__init__" qual st f fd ∧ Mk K C f
section
variable {p : Pm} {env : List Sl} {ta tb tc te : TE} {mg : Str → Option Value}
theorem ev_stay {m : Option Ans} {cs : List Nat} (h : Ev p false te env m) (hc : ∀ c, c = 0 ∨ c = 5 → Cls p.K (p.cl c) ∧ NoAttr p.K (p.cl c) "stay") : Ev p false (tFld p.K te "stay") env (m.bind fun x => x.stay?) := ev_fld (get := Ans.stay?) h fun x y e => by
  cases x <;> cases e
  · exact ⟨0, _, rfl, rfl, (hc 0 (.inl rfl)).1, (hc 0 (.inl rfl)).2⟩
  · exact ⟨5, _, rfl, rfl, (hc 5 (.inr rfl)).1, (hc 5 (.inr rfl)).2⟩
/-- .stay where there is no Round -/
def Ans.stayL? : Ans → Option (List Int)
  | .least s _ => some s
  | _ => none
theorem ev_stayL {m : Option Ans} (h : Ev p false te env m) (hc : Cls p.K (p.cl 0)) (hn : NoAttr p.K (p.cl 0) "stay") : Ev p false (tFld p.K te "stay") env (m.bind fun x => Ans.stayL? x) := ev_fld (get := Ans.stayL?) h fun x y e => by
  cases x <;> cases e
  exact ⟨0, _, rfl, rfl, hc, hn⟩
theorem ev_rows {m : Option Ans} (h : Ev p false te env m) (hc : Cls p.K (p.cl 0)) (hn : NoAttr p.K (p.cl 0) "rows") : Ev p false (tFld p.K te "rows") env (m.bind fun x => Ans.rows? x) := ev_fld (get := Ans.rows?) h fun x y e => by
  cases x <;> cases e
  exact ⟨0, _, rfl, (lk1 (by decide +kernel)).trans lk0, hc, hn⟩
end
end PU

namespace PU
open PySem
theorem kit_self {K : PySem.W.Frag} {C : Addr} : PySem.W.kitOne K (.ref C) (.ref C) = some true := by
  have e : (Value.ref C == Value.ref C) = true := by simp
  unfold PySem.W.kitOne
  rw [if_pos e]
theorem kit_sub {K : PySem.W.Frag} {C C' : Addr} {b : Bool} (ne : (Value.ref C == Value.ref C') = false) (h1 : PySem.W.isClsIn K C' = true) (h2 : PySem.W.typeIn K (.ref C') = some (.type "type")) (h3 : PySem.W.subIn K (.ref C) (.ref C') = some b) : PySem.W.kitOne K (.ref C) (.ref C') = some b := by
  unfold PySem.W.kitOne
  rw [if_neg (by rw [ne]; exact Bool.false_ne_true)]
  have e : ((PySem.W.clsIn K C').isSome && PySem.W.typeIn K (.ref C') == some (.type "type")) = true := by
    rw [show (PySem.W.clsIn K C').isSome = true from h1, h2]
    rfl
  show (if _ = true then PySem.W.subIn K (.ref C) (.ref C') else none) = some b
  rw [if_pos e]
  exact h3
end PU

set_option Elab.async false
set_option maxRecDepth 100000
set_option linter.all false
/-! PU9: methods of plain objects, by the class that is found. -/
namespace PU
open PySem L2
open Enc
/-- o.m(..): o may be of any of the classes that S tells -/
def tMtA (m : Str) (S : Addr → Sp → Prop) (ta : TE) (t : TA) : TE :=
  fun σ H Q => ta σ H fun x H1 => ∃ a C dx fs sp, x = .ref a ∧ H1 a = some (.ins C dx fs) ∧ fs.lookup m = none ∧ S C sp ∧ t σ H1 fun vs H2 => sp (x :: vs) H2 Q E0
structure Mts (P : Program) (w : World) (K : PySem.W.Frag) (mg : Str → Option Value) (base : Heap) (m : Str) (k : Nat) (S : Addr → Sp → Prop) : Prop where
  ex : ∀ C sp, S C sp → ∃ f fd ps j, Cls K C ∧ Meth K C m f ∧ FnOk P w K mg base CX0 j f fd ps sp ∧ Binds K fd ps [] ∧ j ≤ k
theorem pe_mts {X : Cx} {k : Nat} {S : Addr → Sp → Prop} {m : Str} {apos pos : Pos} {o e : Expr} {es : List Expr} {ta : TE} {t : TA} {pl : Sem Bool} (c : Mts X.prog X.w X.K X.mg X.base m k S) (hr : Room k X.A) (he : PE X o ta) (ha : PA X (e :: es) t)
    (h1 : starEach (e :: es) X.env = (false, eval e X.env) :: starEach es X.env := by rfl) (h2 : (backTo pos (starEach es X.env)).any (·.1) = false := by rfl)
    (h3 : eval (.Call (.Attribute o m apos) (e :: es) [] pos) X.env = (do
      let ov ← eval o X.env
      standAt apos.atName
      let (f, first) ← holding [ov] (getMethod ov m pl); callWith pos f first (backTo pos (starEach (e :: es) X.env)) (backToKw pos (keywordEach [] X.env))) := by rfl) :
    PE X (.Call (.Attribute o m apos) (e :: es) [] pos) (tMtA m S ta t) := by
  refine ⟨fun pins s σ H Q I h => PySem.W.methodCall_KW (pl := pl) (thn (he.run pins s σ H _ I h) fun u s1 hq => ?_) h3⟩
  obtain ⟨x, H1, I1, rx, a, C, dx, fs, sp, ex, ea, l, hS, q⟩ := hq
  obtain ⟨f, fd, ps, j, hc, hm, F, hb, hj⟩ := c.ex C sp hS
  subst ex
  obtain rfl : u = Value.ref a := rx
  refine getmeth_ok I1 ea hc hm l (PySem.W.callWith_K (first := [.ref a]) (h₀ := X.base) I1.ok.mod.kin hm.kp (thn (ha.run pos pins s1 σ H1 _ I1 q) fun us s2 hq2 => ?_) h1 h2)
  obtain ⟨vs, H2, I2, r, q2⟩ := hq2
  refine ⟨I2.kIn, run_fn (us := .ref a :: us) (vs := .ref a :: vs) (dvs := []) (ds := []) F (hr.mono hj) hb .nil pass0 I2 (.cons rfl r) ?_⟩
  rw [List.append_nil]; exact q2
theorem pe_mts0 {X : Cx} {k : Nat} {S : Addr → Sp → Prop} {m : Str} {apos pos : Pos} {o : Expr} {ta : TE} {pl : Sem Bool} (c : Mts X.prog X.w X.K X.mg X.base m k S) (hr : Room k X.A) (he : PE X o ta)
    (h3 : eval (.Call (.Attribute o m apos) [] [] pos) X.env = (do
      let ov ← eval o X.env
      standAt apos.atName
      let (f, first) ← holding [ov] (getMethod ov m pl); callWith pos f first (backTo pos (starEach [] X.env)) (backToKw pos (keywordEach [] X.env))) := by rfl) :
    PE X (.Call (.Attribute o m apos) [] [] pos) (tMtA m S ta tNil) := by
  refine ⟨fun pins s σ H Q I h => PySem.W.methodCall_KW (pl := pl) (thn (he.run pins s σ H _ I h) fun u s1 hq => ?_) h3⟩
  obtain ⟨x, H1, I1, rx, a, C, dx, fs, sp, ex, ea, l, hS, q⟩ := hq
  obtain ⟨f, fd, ps, j, hc, hm, F, hb, hj⟩ := c.ex C sp hS
  subst ex
  obtain rfl : u = Value.ref a := rx
  refine getmeth_ok I1 ea hc hm l (PySem.W.callWith_K0 (first := [.ref a]) I1.kIn hm.kp (run_fn (us := [.ref a]) (vs := [.ref a]) (dvs := []) (ds := []) F (hr.mono hj) hb .nil pass0 I1 (.cons rfl .nil) ?_))
  rw [List.append_nil]; exact q
section
variable {p : Pm} {env : List Sl} {ta tb tc te td : TE} {α β γ δ ε ζ : Type} [Enc α] [Enc β] [Enc γ] [Enc δ] [Enc ε] [Enc ζ]
theorem lookup_no {G : Hp} {f : Str} : ∀ {fs : List (Str × D)} {xs : List (Str × V)}, RpF p G fs xs → fs.lookup f = none → xs.lookup f = none
  | [], _, h, _ => by rw [show _ = [] from h]; rfl
  | (g, d') :: fs, _, h, e => by
    obtain ⟨v, vs, rfl, h1, h2⟩ := h
    rw [List.lookup_cons] at e ⊢
    cases q : (f == g) with
    | true => rw [q] at e; cases e
    | false => rw [q] at e; exact lookup_no h2 e
def sp5 (p : Pm) (nw : Bool) (f : α → β → δ → ε → ζ → Option γ) : Sp := spF p nw (fun x : α × β × δ × ε × ζ => [enc x.1, enc x.2.1, enc x.2.2.1, enc x.2.2.2.1, enc x.2.2.2.2]) fun x => f x.1 x.2.1 x.2.2.1 x.2.2.2.1 x.2.2.2.2
/-- the family of the classes' own answers -/
def pick {σ : Type} (cs : List Nat) (c : Nat) (x : Option σ) : Option σ := if c ∈ cs then x else none
theorem pick_some {σ : Type} {cs : List Nat} {c : Nat} {x : Option σ} {z : σ} (h : pick cs c x = some z) : c ∈ cs ∧ x = some z := by
  unfold pick at h
  by_cases q : c ∈ cs
  · rw [if_pos q] at h; exact ⟨q, h⟩
  · rw [if_neg q] at h; cases h
theorem ev_meth {τ : Type} {nw : Bool} {ea : τ → List D} {cs : List Nat} {cl : α → Nat} {m : Str} {g : Nat → α → τ → Option γ} {S : Addr → Sp → Prop} {t : TA} {mx : Option α} {ma : Option τ} (hx : Ev p false te env mx) (ha : EvA p t env (ma.bind fun a => some (ea a)))
    (hc : ∀ x : α, ∃ fs, enc x = .ins (cl x) fs ∧ fs.lookup m = none) (hS : ∀ c ∈ cs, S (p.cl c) (spF p nw (fun y : α × τ => enc y.1 :: ea y.2) fun y => g c y.1 y.2)) :
    Ev p nw (tMtA m S te t) env (mx.bind fun x => ma.bind fun a => pick cs (cl x) (g (cl x) x a)) := fun z e G0 H0 σ G H s Q k => by
  obtain ⟨x, e1, e⟩ := bind_some e
  obtain ⟨a, e2, e⟩ := bind_some e
  obtain ⟨hi, e⟩ := pick_some e
  obtain ⟨fs, q1, q2⟩ := hc x
  refine hx x e1 G0 H0 σ G H s _ fun v G1 H1 g1 r1 => ?_
  have r1' := r1
  rw [q1] at r1'
  obtain ⟨b, dx, xs, rfl, h1, h2⟩ := r1'
  refine ⟨b, _, dx, xs, _, rfl, g1.s _ _ h1, lookup_no h2 q2, hS _ hi, ha (ea a) (by rw [e2]; rfl) G0 H0 σ G1 H1 (s.step g1) _ fun vs G2 H2 g2 r2 => ?_⟩
  exact ⟨G2, (x, a), z, g2.s, .cons (Rp.mono g2.g _ r1) r2, e, fun v G3 H3 g3 r3 => k v G3 H3 ((g1.trans g2).trans g3) (res_back (g1.trans g2).h r3)⟩
def mS0 (p : Pm) (nw : Bool) (cs : List Nat) (g : Nat → α → Option γ) : Addr → Sp → Prop := fun C sp => ∃ c ∈ cs, C = p.cl c ∧ sp = sp1 p nw (g c)
def mS2 (p : Pm) (nw : Bool) (cs : List Nat) (g : Nat → α → β → δ → Option γ) : Addr → Sp → Prop := fun C sp => ∃ c ∈ cs, C = p.cl c ∧ sp = sp3 p nw (g c)
def mS1 (p : Pm) (nw : Bool) (cs : List Nat) (g : Nat → α → β → Option γ) : Addr → Sp → Prop := fun C sp => ∃ c ∈ cs, C = p.cl c ∧ sp = sp2 p nw (g c)
def mS3 (p : Pm) (nw : Bool) (cs : List Nat) (g : Nat → α → β → δ → ε → Option γ) : Addr → Sp → Prop := fun C sp => ∃ c ∈ cs, C = p.cl c ∧ sp = sp4 p nw (g c)
def mS4 (p : Pm) (nw : Bool) (cs : List Nat) (g : Nat → α → β → δ → ε → ζ → Option γ) : Addr → Sp → Prop := fun C sp => ∃ c ∈ cs, C = p.cl c ∧ sp = sp5 p nw (g c)
variable {nw : Bool} {cs : List Nat} {cl : α → Nat} {m : Str} {ma : Option α} {mb : Option β} {mc : Option δ} {md : Option ε} {me : Option ζ}
theorem ev_meth0 {g : Nat → α → Option γ} (hx : Ev p false te env ma) (hc : ∀ x : α, ∃ fs, enc x = .ins (cl x) fs ∧ fs.lookup m = none) : Ev p nw (tMtA m (mS0 p nw cs g) te tNil) env (ma.bind fun x => pick cs (cl x) (g (cl x) x)) := fun z e => by
  obtain ⟨x, e1, e⟩ := bind_some e
  exact ev_meth (ma := some ()) (ea := fun _ => []) (g := fun c x (_ : Unit) => g c x) hx (fun w ew => ea_nil w ew) hc (fun c hi => ⟨c, hi, rfl, by
    funext vs H Q E
    refine propext ⟨fun ⟨G, y, z, h⟩ => ⟨G, y.1, z, h⟩, fun ⟨G, y, z, h⟩ => ⟨G, (y, ()), z, h⟩⟩⟩) z (by rw [e1]; exact e)
theorem ev_meth1 {g : Nat → α → β → Option γ} (hx : Ev p false te env ma) (hb : Ev p false tb env mb) (hc : ∀ x : α, ∃ fs, enc x = .ins (cl x) fs ∧ fs.lookup m = none) : Ev p nw (tMtA m (mS1 p nw cs g) te (tCons tb tNil)) env (ma.bind fun x => mb.bind fun y => pick cs (cl x) (g (cl x) x y)) := fun z e => by
  obtain ⟨x, e1, e⟩ := bind_some e
  obtain ⟨y, e2, e⟩ := bind_some e
  exact ev_meth (ma := some y) (ea := fun y => [enc y]) (g := g) hx (fun w ew => ea_cons hb ea_nil w (by rw [e2]; exact ew)) hc (fun c hi => ⟨c, hi, rfl, rfl⟩) z (by rw [e1]; exact e)
theorem ev_meth2 {g : Nat → α → β → δ → Option γ} (hx : Ev p false te env ma) (hb : Ev p false tb env mb) (hd : Ev p false tc env mc) (hc : ∀ x : α, ∃ fs, enc x = .ins (cl x) fs ∧ fs.lookup m = none) : Ev p nw (tMtA m (mS2 p nw cs g) te (tCons tb (tCons tc tNil))) env (ma.bind fun x => mb.bind fun y => mc.bind fun y2 => pick cs (cl x) (g (cl x) x y y2)) := fun z e => by
  obtain ⟨x, e1, e⟩ := bind_some e
  obtain ⟨y, e2, e⟩ := bind_some e
  obtain ⟨y2, e3, e⟩ := bind_some e
  exact ev_meth (ma := some (y, y2)) (ea := fun y => [enc y.1, enc y.2]) (g := fun c x y => g c x y.1 y.2) hx (fun w ew => ea_cons hb (ea_cons hd ea_nil) w (by rw [e2, e3]; exact ew)) hc (fun c hi => ⟨c, hi, rfl, rfl⟩) z (by rw [e1]; exact e)
theorem ev_meth3 {g : Nat → α → β → δ → ε → Option γ} (hx : Ev p false te env ma) (hb : Ev p false tb env mb) (hd : Ev p false tc env mc) (he : Ev p false td env md) (hc : ∀ x : α, ∃ fs, enc x = .ins (cl x) fs ∧ fs.lookup m = none) : Ev p nw (tMtA m (mS3 p nw cs g) te (tCons tb (tCons tc (tCons td tNil)))) env (ma.bind fun x => mb.bind fun y => mc.bind fun y2 => md.bind fun y3 => pick cs (cl x) (g (cl x) x y y2 y3)) := fun z e => by
  obtain ⟨x, e1, e⟩ := bind_some e
  obtain ⟨y, e2, e⟩ := bind_some e
  obtain ⟨y2, e3, e⟩ := bind_some e
  obtain ⟨y3, e4, e⟩ := bind_some e
  exact ev_meth (ma := some (y, y2, y3)) (ea := fun y => [enc y.1, enc y.2.1, enc y.2.2]) (g := fun c x y => g c x y.1 y.2.1 y.2.2) hx (fun w ew => ea_cons hb (ea_cons hd (ea_cons he ea_nil)) w (by rw [e2, e3, e4]; exact ew)) hc (fun c hi => ⟨c, hi, rfl, rfl⟩) z (by rw [e1]; exact e)
theorem ev_meth4 {tf : TE} {g : Nat → α → β → δ → ε → ζ → Option γ} (hx : Ev p false te env ma) (hb : Ev p false tb env mb) (hd : Ev p false tc env mc) (he : Ev p false td env md) (hf : Ev p false tf env me) (hc : ∀ x : α, ∃ fs, enc x = .ins (cl x) fs ∧ fs.lookup m = none) : Ev p nw (tMtA m (mS4 p nw cs g) te (tCons tb (tCons tc (tCons td (tCons tf tNil))))) env (ma.bind fun x => mb.bind fun y => mc.bind fun y2 => md.bind fun y3 => me.bind fun y4 => pick cs (cl x) (g (cl x) x y y2 y3 y4)) := fun z e => by
  obtain ⟨x, e1, e⟩ := bind_some e
  obtain ⟨y, e2, e⟩ := bind_some e
  obtain ⟨y2, e3, e⟩ := bind_some e
  obtain ⟨y3, e4, e⟩ := bind_some e
  obtain ⟨y4, e5, e⟩ := bind_some e
  exact ev_meth (ma := some (y, y2, y3, y4)) (ea := fun y => [enc y.1, enc y.2.1, enc y.2.2.1, enc y.2.2.2]) (g := fun c x y => g c x y.1 y.2.1 y.2.2.1 y.2.2.2) hx (fun w ew => ea_cons hb (ea_cons hd (ea_cons he (ea_cons hf ea_nil))) w (by rw [e2, e3, e4, e5]; exact ew)) hc (fun c hi => ⟨c, hi, rfl, rfl⟩) z (by rw [e1]; exact e)
/-- a class without an __init__ -/
theorem ans_no {m : Str} (h : ∀ x : Ans, ∀ fs, enc x = .ins x.cls fs → fs.lookup m = none) : ∀ x : Ans, ∃ fs, enc x = .ins x.cls fs ∧ fs.lookup m = none := fun x => by
  obtain ⟨fs, e⟩ := ans_cls x
  exact ⟨fs, e, h x fs e⟩
theorem ans_shows (x : Ans) : ∃ fs, enc x = .ins x.cls fs ∧ fs.lookup ("shows" : Str) = none := by
  cases x <;> refine ⟨_, rfl, ?_⟩ <;> first | rfl | (simp only [lk1 (show (("shows" : Str) == "stay") = false by decide +kernel), lk1 (show (("shows" : Str) == "rows") = false by decide +kernel), lk1 (show (("shows" : Str) == "one") = false by decide +kernel), lk1 (show (("shows" : Str) == "other") = false by decide +kernel), lk1 (show (("shows" : Str) == "more") = false by decide +kernel), lk1 (show (("shows" : Str) == "step") = false by decide +kernel), lk1 (show (("shows" : Str) == "papers") = false by decide +kernel)]; rfl)
end
end PU

set_option Elab.async false
set_option maxRecDepth 100000
set_option linter.all false
/-! PU10: classes without an __init__; the shelf as data; more fields; is True. -/
namespace PU
open PySem L2
open Enc
structure Mk0 (K : PySem.W.Frag) (C : Addr) : Prop where
  makes : PySem.W.makesIn K C = true
  init : PySem.W.findIn K (.ref C) "__init__" = some (some (.builtin "object.__init__"))
  kp : PySem.W.keepIn K (.ref C) = true
open PySem.W in
theorem run_mk0 {X : Cx} {C : Addr} {pins : List (Addr × Obj)} {σ : St} {H : Hp} {s : Shared} {Q : VK} (M : Mk0 X.K C) (I : Inv X pins σ H s)
    (h : ∀ x dx, H x = none → H dx = none → dx ≠ x → Q (.ref x) (upd (upd H dx (.own x)) x (.ins C dx []))) : wpAny (model X.prog X.w) X.A (PySem.call (.ref C) []) (EP X pins σ Q) X.xe s := by
  have hq := h (s.heap.objs.size + 1) s.heap.objs.size (I.hok.fresh (Nat.le_succ _)) (I.hok.fresh (Nat.le_refl _)) (Nat.ne_of_lt (Nat.lt_succ_self _))
  have I2 := Inv.made (C := C) I
  have Y := makes_of (M := model X.prog X.w) I.kIn M.makes
  obtain ⟨hh, g, d, t, os⟩ := s
  refine wpAny_call (make_map0 I.kIn M.makes M.init (fun self => Looks.of_pure (oi_bind self)) ?_)
  have ob : ((hh.push emptyDict).push (instObj C hh.objs.size)).get? (hh.objs.size + 1) = some (instObj C hh.objs.size) := by
    have := Heap.get?_push_size (hh.push emptyDict) (o := instObj C hh.objs.size) rfl
    rwa [Heap.size_push] at this
  have t1 : Looks (model X.prog X.w) ((hh.push emptyDict).push (instObj C hh.objs.size)) (typeOf (.ref (hh.objs.size + 1))) (.ref C) := (Looks.ld (part := none) ob).andThen .now
  have t2 : Looks (model X.prog X.w) ((hh.push emptyDict).push (instObj C hh.objs.size)) (isInstance (.ref (hh.objs.size + 1)) (.type "object")) true := t1.andThen (Y.top.keeps fun b o e => Heap.get?_push_of_some _ (Heap.get?_push_of_some _ e))
  refine codeAny_call_builtin oi_plain entry_oi (@check_slot (model X.prog X.w) _ _ _ "object.__init__" "object" "__init__"
    (.ref (hh.objs.size + 1)) [] [] _ oi_kind oi_split t2 (oi_args (.ref (hh.objs.size + 1))) ?_)
  rw [oi_run]
  exact wpAny_pure ⟨rfl, V.ref (hh.objs.size + 1), _, I2, rfl, hq⟩
def tMk0 (C : Addr) : TE := fun σ H Q => ∀ x dx, H x = none → H dx = none → dx ≠ x → Q (.ref x) (upd (upd H dx (.own x)) x (.ins C dx []))
structure Mak0 (K : PySem.W.Frag) (mg : Str → Option Value) (x : Str) (C : Addr) : Prop where
  ex : Mk0 K C ∧ mg x = some (.ref C)
theorem pe_mk0 {X : Cx} {x : Str} {C : Addr} {p pos : Pos} (c : Mak0 X.K X.mg x C) (hg : Gl X x) (hdb : (x == ("__debug__" : Str)) = false := by decide) : PE X (.Call (.Name x p) [] [] pos) (tMk0 C) := by
  obtain ⟨M, hm⟩ := c.ex
  refine ⟨fun pins s σ H Q I h => wpAny_Call_Name_kw (ld_glob I hg hm ?_ hdb)⟩
  exact PySem.W.callWith_K0 I.kIn M.kp (run_mk0 M I h)
/-- the shelf -/
structure Shf where
  books : List Int
  weights : List Int
  nailed : List Int
  paid : Int
  done : List (Int × Int)
instance : Enc Shf := ⟨fun x => .ins 6 [("books", enc x.books), ("weights", enc x.weights), ("nailed", enc x.nailed), ("paid", enc x.paid), ("done", enc x.done)]⟩
def shf_cls (_ : Shf) : Nat := 6
theorem shf_no {m : Str} (h0 : (m == ("books" : Str)) = false) (h1 : (m == ("weights" : Str)) = false) (h2 : (m == ("nailed" : Str)) = false) (h3 : (m == ("paid" : Str)) = false) (h4 : (m == ("done" : Str)) = false) (x : Shf) : ∃ fs, enc x = .ins (shf_cls x) fs ∧ fs.lookup m = none :=
  ⟨_, rfl, (lk1 h0).trans ((lk1 h1).trans ((lk1 h2).trans ((lk1 h3).trans (lk1 h4))))⟩
section
variable {p : Pm} {env : List Sl} {ta tb tc te td : TE} {α β γ : Type} [Enc α] [Enc β] [Enc γ]
theorem en_mk0 {c : Nat} (x : γ) (hx : enc x = .ins c []) : EvN p (tMk0 (p.cl c)) env (some x) := fun z e G0 H0 σ G H s Q k => fun a dx n1 n2 n3 => by
  cases e
  have sH : Same H (upd (upd H dx (.own a)) a (.ins (p.cl c) dx [])) := (same_new n2).trans (same_new (by rw [upd_ne (Ne.symm n3)]; exact n1))
  refine k (.ref a) G _ (sing a (.ins (p.cl c) dx [])) ⟨.refl _, s.gr.s.trans sH, sH, fun b o h q => by rw [h] at q; cases q⟩ (fun b o h => ?_) (fun b o h => ?_) ?_
  · obtain ⟨rfl, rfl⟩ := sing_iff.mp h; exact upd_same
  · obtain ⟨rfl, rfl⟩ := sing_iff.mp h; exact ⟨n1, s.gr.s.free n1⟩
  · rw [hx]
    exact ⟨a, dx, [], nil, rfl, ⟨rfl, rfl⟩, rfl, rfl⟩
theorem ev_isT {ma : Option Bool} (b : Bool) (h : Ev p false te env ma) : Ev p false (tOp rIsB te (tC (.bl b))) env (ma.bind fun x => some (decide (x = b))) := fun z e G0 H0 σ G H s Q k => by
  obtain ⟨x, e1, e⟩ := bind_some e
  cases e
  refine h x e1 G0 H0 σ G H s _ fun v G1 H1 g1 r1 => ?_
  cases (show v = .bl x from r1)
  exact ⟨x, b, rfl, rfl, k _ G1 H1 g1 rfl⟩
theorem ev_inTu {ma : Option Int} {mb : Option (Tu Int)} (ha : Ev p false ta env ma) (hb : Ev p false tb env mb) : Ev p false (tOp (rIn p.K false) ta tb) env (ma.bind fun x => mb.bind fun t => some (decide (x ∈ t.xs))) := ev_op ha hb fun x t => by
  intro z e G H v w s rv rw' Q k
  cases e
  cases (show v = .int x from rv)
  obtain ⟨a, vs, rfl, h1, h2⟩ := rw'
  cases ints_of h2
  refine ⟨a, _, rfl, .inr (.of (s _ _ h1)), rfl, flat_ints t.xs, ?_⟩
  have q := k (.bl (inV (.int x) (t.xs.map V.int))) G H (.refl s) (by rw [inV_ints]; exact rfl)
  exact q
theorem ev_notInTu {ma : Option Int} {mb : Option (Tu Int)} (ha : Ev p false ta env ma) (hb : Ev p false tb env mb) : Ev p false (tOp (rIn p.K true) ta tb) env (ma.bind fun x => mb.bind fun t => some (!decide (x ∈ t.xs))) := ev_op ha hb fun x t => by
  intro z e G H v w s rv rw' Q k
  cases e
  cases (show v = .int x from rv)
  obtain ⟨a, vs, rfl, h1, h2⟩ := rw'
  cases ints_of h2
  refine ⟨a, _, rfl, .inr (.of (s _ _ h1)), rfl, flat_ints t.xs, ?_⟩
  have q := k (.bl (!inV (.int x) (t.xs.map V.int))) G H (.refl s) (by rw [inV_ints]; exact rfl)
  exact q
theorem ev_lenP {ma : Option (α × β)} (h : Ev p false te env ma) : Ev p false (tCB (rLenQ p.K) (tCons te tNil)) env (ma.bind fun _ => some (2 : Int)) := ev_cb1 h fun xs z e G H vs s r Q k => by
  cases e
  obtain ⟨v, ws, rfl, h, rfl⟩ := r
  obtain ⟨a, us, rfl, h1, h2⟩ := h
  refine ⟨a, us, rfl, .inr (.of (s _ _ h1)), ?_⟩
  have hl : us.length = 2 := h2.length.symm
  rw [hl]
  exact k _ G H (.refl s) rfl
theorem ev_more {m : Option Ans} (h : Ev p false te env m) (hc : Cls p.K (p.cl 3)) (hn : NoAttr p.K (p.cl 3) "more") : Ev p false (tFld p.K te "more") env (m.bind fun x => Ans.more? x) := ev_fld (get := Ans.more?) h fun x y e => by
  cases x <;> cases e
  exact ⟨3, _, rfl, lk0, hc, hn⟩
theorem ev_step {m : Option Ans} (h : Ev p false te env m) (hc : Cls p.K (p.cl 4)) (hn : NoAttr p.K (p.cl 4) "step") : Ev p false (tFld p.K te "step") env (m.bind fun x => Ans.step? x) := ev_fld (get := Ans.step?) h fun x y e => by
  cases x <;> cases e
  exact ⟨4, _, rfl, lk0, hc, hn⟩
theorem ev_one {m : Option Ans} (h : Ev p false te env m) (hc : Cls p.K (p.cl 1)) (hn : NoAttr p.K (p.cl 1) "one") : Ev p false (tFld p.K te "one") env (m.bind fun x => Ans.one? x) := ev_fld (get := Ans.one?) h fun x y e => by
  cases x <;> cases e
  exact ⟨1, _, rfl, lk0, hc, hn⟩
theorem ev_other {m : Option Ans} (h : Ev p false te env m) (hc : Cls p.K (p.cl 1)) (hn : NoAttr p.K (p.cl 1) "other") : Ev p false (tFld p.K te "other") env (m.bind fun x => Ans.other? x) := ev_fld (get := Ans.other?) h fun x y e => by
  cases x <;> cases e
  exact ⟨1, _, rfl, (lk1 (by decide +kernel)).trans lk0, hc, hn⟩
theorem ev_papers {m : Option Ans} (h : Ev p false te env m) (hc : Cls p.K (p.cl 5)) (hn : NoAttr p.K (p.cl 5) "papers") : Ev p false (tFld p.K te "papers") env (m.bind fun x => Ans.papers? x) := ev_fld (get := Ans.papers?) h fun x y e => by
  cases x <;> cases e
  exact ⟨5, _, rfl, (lk1 (by decide +kernel)).trans lk0, hc, hn⟩
theorem ev_shf {β : Type} [Enc β] {f : Str} {g : Shf → β} {m : Option Shf} (h : Ev p false te env m) (hf : ∀ x : Shf, ∃ fs, enc x = .ins 6 fs ∧ fs.lookup f = some (enc (g x))) (hc : Cls p.K (p.cl 6)) (hn : NoAttr p.K (p.cl 6) f) : Ev p false (tFld p.K te f) env (m.bind fun x => some (g x)) := ev_fld (get := fun x => some (g x)) h fun x y e => by
  cases e
  obtain ⟨fs, h1, h2⟩ := hf x
  exact ⟨6, fs, h1, h2, hc, hn⟩
theorem lk_books (x : Shf) : ∃ fs, enc x = .ins 6 fs ∧ fs.lookup ("books" : Str) = some (enc x.books) := ⟨_, rfl, lk0⟩
theorem lk_weights (x : Shf) : ∃ fs, enc x = .ins 6 fs ∧ fs.lookup ("weights" : Str) = some (enc x.weights) := ⟨_, rfl, (lk1 (by decide +kernel)).trans lk0⟩
theorem lk_nailed (x : Shf) : ∃ fs, enc x = .ins 6 fs ∧ fs.lookup ("nailed" : Str) = some (enc x.nailed) := ⟨_, rfl, (lk1 (by decide +kernel)).trans ((lk1 (by decide +kernel)).trans lk0)⟩
theorem lk_paid (x : Shf) : ∃ fs, enc x = .ins 6 fs ∧ fs.lookup ("paid" : Str) = some (enc x.paid) := ⟨_, rfl, (lk1 (by decide +kernel)).trans ((lk1 (by decide +kernel)).trans ((lk1 (by decide +kernel)).trans lk0))⟩
theorem lk_done (x : Shf) : ∃ fs, enc x = .ins 6 fs ∧ fs.lookup ("done" : Str) = some (enc x.done) := ⟨_, rfl, (lk1 (by decide +kernel)).trans ((lk1 (by decide +kernel)).trans ((lk1 (by decide +kernel)).trans ((lk1 (by decide +kernel)).trans lk0)))⟩
variable {ρ δ : Type} [Enc δ] {tz : TS} {Po : Post ρ}
/-- by a tuple, unpacked; lists of one's own among the parts -/
theorem k_tupR2 {ni nj : Bool} {i j : Nat} {ma : Option α} {mb : Option β} {rest : α → β → Option ρ} (ha : Ev p ni ta env ma) (hb : Ev p nj tb env mb) (k : ∀ x y, Bk p tz ((env.set i (sl ni (enc x))).set j (sl nj (enc y))) (rest x y) Po) :
    Bk p (tSeq (tAsg (tTup (tCons ta (tCons tb tNil))) (gTup p.K 2 (gCons (gName i) (gCons (gName j) gNil)))) tz) env (ma.bind fun x => mb.bind fun y => rest x y) Po := fun r e G0 H0 σ G H st D q => by
  obtain ⟨x, e1, e⟩ := bind_some e
  obtain ⟨y, e2, e⟩ := bind_some e
  refine ha x e1 G0 H0 σ G H st _ fun v G1 H1 g1 r1 => hb y e2 G0 H0 σ G1 H1 (st.step g1) _ fun w G2 H2 g2 r2 => ?_
  refine ⟨by show 2 ≤ sizeLine; decide, fun l hl => ⟨l, [v, w], rfl, .of upd_same, rfl, v, _, rfl, w, _, rfl, rfl, ?_⟩⟩
  exact k x y r e G0 H0 _ G2 _ (((st.set_res g1 r1).set_res g2 r2).step ⟨.refl _, g2.s.trans (same_new hl), same_new hl, fun a o h z => by rw [h] at z; cases z⟩) D (Po.mono (g1.trans g2).g q)
theorem k_tupR3 {ni nj nl : Bool} {i j l : Nat} {ma : Option α} {mb : Option β} {mc : Option γ} {rest : α → β → γ → Option ρ} (ha : Ev p ni ta env ma) (hb : Ev p nj tb env mb) (hc : Ev p nl tc env mc)
    (k : ∀ x y z, Bk p tz (((env.set i (sl ni (enc x))).set j (sl nj (enc y))).set l (sl nl (enc z))) (rest x y z) Po) :
    Bk p (tSeq (tAsg (tTup (tCons ta (tCons tb (tCons tc tNil)))) (gTup p.K 3 (gCons (gName i) (gCons (gName j) (gCons (gName l) gNil))))) tz) env (ma.bind fun x => mb.bind fun y => mc.bind fun z => rest x y z) Po := fun r e G0 H0 σ G H st D q => by
  obtain ⟨x, e1, e⟩ := bind_some e
  obtain ⟨y, e2, e⟩ := bind_some e
  obtain ⟨z, e3, e⟩ := bind_some e
  refine ha x e1 G0 H0 σ G H st _ fun v G1 H1 g1 r1 => hb y e2 G0 H0 σ G1 H1 (st.step g1) _ fun w G2 H2 g2 r2 => hc z e3 G0 H0 σ G2 H2 ((st.step g1).step g2) _ fun u G3 H3 g3 r3 => ?_
  refine ⟨by show 3 ≤ sizeLine; decide, fun q hl => ⟨q, [v, w, u], rfl, .of upd_same, rfl, v, _, rfl, w, _, rfl, u, _, rfl, rfl, ?_⟩⟩
  exact k x y z r e G0 H0 _ G3 _ ((((st.set_res g1 r1).set_res g2 r2).set_res g3 r3).step ⟨.refl _, g3.s.trans (same_new hl), same_new hl, fun a o h z => by rw [h] at z; cases z⟩) D (Po.mono ((g1.trans g2).trans g3).g (by assumption))
variable {ζ : Type} [Enc ζ] {ε : Type} [Enc ε]
def spD4 (p : Pm) (f : α → β → δ → ε → Option γ) : Sp := spD p (fun x : α × β × δ × ε => [enc x.1, enc x.2.1, enc x.2.2.1, enc x.2.2.2]) fun x => f x.1 x.2.1 x.2.2.1 x.2.2.2
theorem en_call4 {f : α → β → δ → ε → Option γ} {E : XK} {ma : Option α} {mb : Option β} {mc : Option δ} {md : Option ε} (ha : Ev p false ta env ma) (hb : Ev p false tb env mb) (hc : Ev p false tc env mc) (hd : Ev p false td env md) :
    EvN p (tCall (spD4 p f) [] E (tCons ta (tCons tb (tCons tc (tCons td tNil))))) env (ma.bind fun x => mb.bind fun y => mc.bind fun w => md.bind fun u => f x y w u) := fun z e => by
  obtain ⟨x, e1, e⟩ := bind_some e
  obtain ⟨y, e2, e⟩ := bind_some e
  obtain ⟨x3, e3, e⟩ := bind_some e
  obtain ⟨x4, e4, e⟩ := bind_some e
  exact en_call (m := some (x, y, x3, x4)) (fun w ew => ea_cons ha (ea_cons hb (ea_cons hc (ea_cons hd ea_nil))) w (by rw [e1, e2, e3, e4]; exact ew)) z e
def spI3 (p : Pm) (c : Nat) (f : α → β → δ → Option γ) : Sp := spI p c (fun x : α × β × δ => [enc x.1, enc x.2.1, enc x.2.2]) fun x => f x.1 x.2.1 x.2.2
theorem en_make3 {c : Nat} {f : α → β → δ → Option γ} {E : XK} {ma : Option α} {mb : Option β} {mc : Option δ} (ha : Ev p false ta env ma) (hb : Ev p false tb env mb) (hc : Ev p false tc env mc) : EvN p (tMake (p.cl c) (spI3 p c f) [] E (tCons ta (tCons tb (tCons tc tNil)))) env (ma.bind fun x => mb.bind fun y => mc.bind fun w => f x y w) := fun z e => by
  obtain ⟨x, e1, e⟩ := bind_some e
  obtain ⟨y, e2, e⟩ := bind_some e
  obtain ⟨x3, e3, e⟩ := bind_some e
  exact en_make (m := some (x, y, x3)) (fun w ew => ea_cons ha (ea_cons hb (ea_cons hc ea_nil)) w (by rw [e1, e2, e3]; exact ew)) z e
theorem ev_call5 {nw : Bool} {f : α → β → δ → ε → ζ → Option γ} {E : XK} {tf : TE} {ma : Option α} {mb : Option β} {mc : Option δ} {md : Option ε} {me : Option ζ} (ha : Ev p false ta env ma) (hb : Ev p false tb env mb) (hc : Ev p false tc env mc) (hd : Ev p false td env md) (he : Ev p false tf env me) :
    Ev p nw (tCall (sp5 p nw f) [] E (tCons ta (tCons tb (tCons tc (tCons td (tCons tf tNil)))))) env (ma.bind fun x => mb.bind fun y => mc.bind fun z => md.bind fun w => me.bind fun u => f x y z w u) := fun r e G0 H0 σ G H s Q k => by
  obtain ⟨x, e1, e⟩ := bind_some e
  obtain ⟨y, e2, e⟩ := bind_some e
  obtain ⟨z, e3, e⟩ := bind_some e
  obtain ⟨w, e4, e⟩ := bind_some e
  obtain ⟨u, e5, e⟩ := bind_some e
  refine ha x e1 G0 H0 σ G H s _ fun v1 G1 H1 g1 r1 => hb y e2 G0 H0 σ G1 H1 (s.step g1) _ fun v2 G2 H2 g2 r2 => hc z e3 G0 H0 σ G2 H2 ((s.step g1).step g2) _ fun v3 G3 H3 g3 r3 => hd w e4 G0 H0 σ G3 H3 (((s.step g1).step g2).step g3) _ fun v4 G4 H4 g4 r4 =>
    he u e5 G0 H0 σ G4 H4 ((((s.step g1).step g2).step g3).step g4) _ fun v5 G5 H5 g5 r5 => ?_
  have g := (((g1.trans g2).trans g3).trans g4).trans g5
  exact ⟨G5, (x, y, z, w, u), r, g5.s, .cons (Rp.mono (((g2.g.trans g3.g).trans g4.g).trans g5.g) _ r1) (.cons (Rp.mono ((g3.g.trans g4.g).trans g5.g) _ r2) (.cons (Rp.mono (g4.g.trans g5.g) _ r3) (.cons (Rp.mono g5.g _ r4) (.cons r5 .nil)))), e, fun u G6 H6 g6 r6 => k u G6 H6 (g.trans g6) (res_back g.h r6)⟩
end
end PU

set_option Elab.async false
set_option maxRecDepth 100000
set_option linter.all false
/-! PU11: slices with a step. -/
namespace PU
open PySem L2 PySem.Spec PyProof.Rows
open Enc
section
variable {α : Type}
/-- xs[lo::k] -/
def pickL (xs : List α) (lo : Option Int) (k : Int) : List α := (sliceRange (sliceBounds lo none (some k) xs.length).1 (sliceBounds lo none (some k) xs.length).2.1 (sliceBounds lo none (some k) xs.length).2.2).filterMap (xs[·]?)
theorem mem_pickL {xs : List α} {lo : Option Int} {k : Int} {x : α} (h : x ∈ pickL xs lo k) : x ∈ xs := by
  unfold pickL at h
  obtain ⟨i, _, e⟩ := List.mem_filterMap.mp h
  exact List.mem_of_getElem? e
theorem pickL_len (xs : List α) (lo : Option Int) (k : Int) : (pickL xs lo k).length ≤ (sliceRange (sliceBounds lo none (some k) xs.length).1 (sliceBounds lo none (some k) xs.length).2.1 (sliceBounds lo none (some k) xs.length).2.2).length := List.length_filterMap_le _ _
end
theorem vals_pick {xs : List V} {us : List Value} (r : Vals xs us) : ∀ ix : List Nat, Vals (ix.filterMap (xs[·]?)) (ix.filterMap (us[·]?))
  | [] => .nil
  | i :: ix => by
    have ih := vals_pick r ix
    rw [List.filterMap_cons, List.filterMap_cons]
    cases e : xs[i]? with
    | none =>
      have : us[i]? = none := by
        rw [List.getElem?_eq_none_iff] at e ⊢
        rw [← r.length]; exact e
      rw [this]
      exact ih
    | some x =>
      obtain ⟨u, h1, h2⟩ := r.get e
      rw [h1]
      exact .cons h2 ih
def tSlK (K : PySem.W.Frag) (k : Int) (te : TE) (tl : TO) : TE := fun σ H Q => te σ H fun x H1 => tl σ H1 fun l H2 => ∃ a xs, x = .ref a ∧ SqL K H2 a xs ∧ ∀ p, H2 p = none → Q (.ref p) (upd H2 p (.lst (pickL xs l k)))
theorem pe_sliceK {X : Cx} {e : Expr} {te : TE} {lo : Option Expr} {tl : TO} {k : Int} {c : Nat} {p1 p3 pos : Pos} (hk : k ≠ 0) (he : PE X e te) (hl : PO X lo tl) : PE X (.Subscript e (.Slice lo none (some (.Constant (.int k) c p1)) p3) pos) (tSlK X.K k te tl) := by
  refine ⟨fun pins s σ H Q I h => Subscript_ (thn (he.run pins s σ H _ I h) fun v s1 hq => ?_)⟩
  obtain ⟨x, H1, I1, r1, q1⟩ := hq
  have hst : PO X (some (.Constant (.int k) c p1)) (tPart (tC (.int k))) := po_some pe_int
  refine wpAny_Slice (thn (hl.run pins s1 σ H1 _ I1 q1) fun vl s2 hq2 => ?_)
  obtain ⟨l, H2, I2, pl, a, xs, ex, hx, q⟩ := hq2
  subst ex
  cases r1
  refine thn (po_none.run pins s2 σ H2 (fun o H3 => o = none ∧ H3 = H2) I2 ⟨rfl, rfl⟩) fun vu s3 hq3 => ?_
  obtain ⟨u, H3, I3, pu, eu, e3⟩ := hq3
  subst eu e3
  refine thn (hst.run pins s3 σ H3 (fun o H4 => o = some k ∧ H4 = H3) I3 ⟨k, rfl, rfl, rfl⟩) fun vs s4 hq4 => ?_
  obtain ⟨o, H4, I4, ps, eo, e4⟩ := hq4
  subst eo e4
  have I5 : Inv X pins σ H4 { s4 with heap := s4.heap.push { cls := .type "slice", data := .fields #[vl, vu, vs] } } :=
    I4.kept (t' := s4.toks) fun b ob q => Heap.get?_push_of_some _ q
  obtain ⟨its, r, ht, hz⟩ := I5.list hx
  have hlen := r.length
  show wpAny (model X.prog X.w) X.A (subscriptTail e (.Slice lo none (some (.Constant (.int k) c p1)) p3) (.ref a) (.ref s4.heap.objs.size))
    (EP X pins σ Q) X.xe { s4 with heap := s4.heap.push { cls := .type "slice", data := .fields #[vl, vu, vs] } }
  refine tail_any (ops := [.ref a, .ref s4.heap.objs.size]) ht.isList.typeIs (PySem.slot_list_getitem.lookup) ?_ (by with_unfolding_all rfl)
  have k0 : some k ≠ some (0 : Int) := fun e => hk (Option.some.inj e)
  have sz : its.toArray.size ≤ sizeLine := by rw [List.size_toArray]; omega
  refine wpAny_getItem_list_slice ht.isList (Heap.IsSliceOf.new _ vl vu vs) pl pu ps k0 ?_ sz
  have e5 : slicePick its.toArray l none (some k) = (pickL its l k).toArray := by
    unfold slicePick pickL
    simp
  have ln : (pickL xs l k).length ≤ sizeLine := by
    have h1 := slicePick_size_le its.toArray l none (some k)
    rw [e5, List.size_toArray] at h1
    have h2 := (vals_pick r (sliceRange (sliceBounds l none (some k) xs.length).1 (sliceBounds l none (some k) xs.length).2.1 (sliceBounds l none (some k) xs.length).2.2)).length
    have h3 : (pickL xs l k).length = (pickL its l k).length := by
      unfold pickL
      rw [h2, hlen]
    omega
  rw [e5]
  refine ⟨.ref _, _, I5.laid (t' := s4.toks) (o := .lst (pickL xs l k)) (fun b ob q => Heap.get?_push_of_some _ q) (Nat.le_refl _) ?_, rfl, q _ (I5.hok.fresh (Nat.le_refl _))⟩
  refine ⟨ln, _, 0, ?_, Heap.get?_push_size _ rfl⟩
  unfold pickL
  rw [← hlen]
  exact vals_pick r _
section
variable {p : Pm} {env : List Sl} {ta te : TE} {α : Type} [Enc α]
theorem rpa_pick {G : Hp} {xs : List α} {vs : List V} (r : RpA p G (xs.map enc) vs) : ∀ ix : List Nat, RpA p G ((ix.filterMap (xs[·]?)).map enc) (ix.filterMap (vs[·]?))
  | [] => .nil
  | i :: ix => by
    have ih := rpa_pick r ix
    have hl : xs.length = vs.length := by rw [← r.length, List.length_map]
    rw [List.filterMap_cons, List.filterMap_cons]
    cases e : xs[i]? with
    | none =>
      have : vs[i]? = none := by
        rw [List.getElem?_eq_none_iff] at e ⊢
        omega
      rw [this]
      exact ih
    | some x =>
      obtain ⟨v, h1, h2⟩ := r.get (i := i) (d := enc x) (by rw [List.getElem?_map, e]; rfl)
      rw [h1]
      exact .cons h2 ih
theorem ev_sliceK {to : TO} {k : Int} {ma : Option (List α)} {ml : Option (Option Int)} (ha : Ev p false ta env ma) (hl : EvO p to env ml) : Ev p true (tSlK p.K k ta to) env (ma.bind fun xs => ml.bind fun l => some (pickL xs l k)) := fun z e G0 H0 σ G H s Q kk => by
  obtain ⟨xs, e1, e⟩ := bind_some e
  obtain ⟨l, e2, e⟩ := bind_some e
  cases e
  refine ha xs e1 G0 H0 σ G H s _ fun v G1 H1 g1 r1 => hl l e2 G0 H0 σ G1 H1 (s.step g1) _ fun G2 H2 g2 => ?_
  obtain ⟨a, vs, rfl, h1, h2⟩ := Rp.mono g2.g (.lst (xs.map enc)) r1
  refine ⟨a, vs, rfl, .of (g2.s _ _ h1), fun q hq => ?_⟩
  have hl : xs.length = vs.length := by rw [← h2.length, List.length_map]
  have g := g1.trans g2
  have hG : G2 q = none := g2.s.free hq
  have rp : RpA p G2 ((pickL xs l k).map enc) (pickL vs l k) := by
    unfold pickL
    rw [← hl]
    exact rpa_pick h2 _
  exact kk (.ref q) G2 _ ⟨g.g, g2.s.trans (same_new hq), g.h.trans (same_new hq), g.n⟩ ⟨q, _, _, rfl, rfl, g.h.free hq, hG, upd_same, rp⟩
end
section
variable {p : Pm} {env : List Sl} {ta tb tc td tf th : TE} {α β γ δ ε ζ η : Type} [Enc α] [Enc β] [Enc γ] [Enc δ] [Enc ε] [Enc ζ] [Enc η]
def sp6 (p : Pm) (nw : Bool) (f : α → β → δ → ε → ζ → η → Option γ) : Sp := spF p nw (fun x : α × β × δ × ε × ζ × η => [enc x.1, enc x.2.1, enc x.2.2.1, enc x.2.2.2.1, enc x.2.2.2.2.1, enc x.2.2.2.2.2]) fun x => f x.1 x.2.1 x.2.2.1 x.2.2.2.1 x.2.2.2.2.1 x.2.2.2.2.2
theorem ev_call6 {nw : Bool} {f : α → β → δ → ε → ζ → η → Option γ} {E : XK} {ma : Option α} {mb : Option β} {mc : Option δ} {md : Option ε} {me : Option ζ} {mh : Option η} (ha : Ev p false ta env ma) (hb : Ev p false tb env mb) (hc : Ev p false tc env mc) (hd : Ev p false td env md) (he : Ev p false tf env me) (hh : Ev p false th env mh) :
    Ev p nw (tCall (sp6 p nw f) [] E (tCons ta (tCons tb (tCons tc (tCons td (tCons tf (tCons th tNil))))))) env (ma.bind fun x => mb.bind fun y => mc.bind fun z => md.bind fun w => me.bind fun u => mh.bind fun v => f x y z w u v) := fun r e G0 H0 σ G H s Q k => by
  obtain ⟨x, e1, e⟩ := bind_some e
  obtain ⟨y, e2, e⟩ := bind_some e
  obtain ⟨z, e3, e⟩ := bind_some e
  obtain ⟨w, e4, e⟩ := bind_some e
  obtain ⟨u, e5, e⟩ := bind_some e
  obtain ⟨t, e6, e⟩ := bind_some e
  refine ha x e1 G0 H0 σ G H s _ fun v1 G1 H1 g1 r1 => hb y e2 G0 H0 σ G1 H1 (s.step g1) _ fun v2 G2 H2 g2 r2 => hc z e3 G0 H0 σ G2 H2 ((s.step g1).step g2) _ fun v3 G3 H3 g3 r3 => hd w e4 G0 H0 σ G3 H3 (((s.step g1).step g2).step g3) _ fun v4 G4 H4 g4 r4 =>
    he u e5 G0 H0 σ G4 H4 ((((s.step g1).step g2).step g3).step g4) _ fun v5 G5 H5 g5 r5 => hh t e6 G0 H0 σ G5 H5 (((((s.step g1).step g2).step g3).step g4).step g5) _ fun v6 G6 H6 g6 r6 => ?_
  have g := ((((g1.trans g2).trans g3).trans g4).trans g5).trans g6
  exact ⟨G6, (x, y, z, w, u, t), r, g6.s, .cons (Rp.mono ((((g2.g.trans g3.g).trans g4.g).trans g5.g).trans g6.g) _ r1) (.cons (Rp.mono (((g3.g.trans g4.g).trans g5.g).trans g6.g) _ r2) (.cons (Rp.mono ((g4.g.trans g5.g).trans g6.g) _ r3) (.cons (Rp.mono (g5.g.trans g6.g) _ r4) (.cons (Rp.mono g6.g _ r5) (.cons r6 .nil))))), e, fun u G7 H7 g7 r7 => k u G7 H7 (g.trans g7) (res_back g.h r7)⟩
end
section
variable {p : Pm} {env : List Sl} {te : TE}
theorem ev_isNT {ma : Option Bool} (b : Bool) (h : Ev p false te env ma) : Ev p false (tOp rNotB te (tC (.bl b))) env (ma.bind fun x => some (!decide (x = b))) := fun z e G0 H0 σ G H s Q k => by
  obtain ⟨x, e1, e⟩ := bind_some e
  cases e
  refine h x e1 G0 H0 σ G H s _ fun v G1 H1 g1 r1 => ?_
  cases (show v = .bl x from r1)
  exact ⟨x, b, rfl, rfl, k _ G1 H1 g1 rfl⟩
end
section
variable {X : Cx} {e : Expr} {te : TE}
theorem xe_sliceK (K) {lo : Option Expr} {tl : TO} {k : Int} {c : Nat} {p1 p3 pos : Pos} (hk : k ≠ 0) (he : PE X e te) (hl : PO X lo tl) (hK : X.K = K := by rfl) : PE X (.Subscript e (.Slice lo none (some (.Constant (.int k) c p1)) p3) pos) (tSlK K k te tl) := by
  subst hK; exact pe_sliceK hk he hl
end
end PU

set_option Elab.async false
set_option maxRecDepth 100000
set_option linter.all false
/-! PU12: what is one's own, read for a while as plain data. -/
namespace PU
open PySem L2
open Enc
/-- no tuple in F is unchangeable -/
def Own (F : Hp) : Prop := ∀ a xs, F a = some (.tup xs) → ∃ b, V.ref b ∈ xs ∧ F b ≠ none
theorem Own.nil : Own nil := fun _ _ h => nomatch h
theorem Own.un {A B : Hp} (a : Own A) (b : Own B) (d : Dj A B) : Own (un A B) := fun x xs h => by
  rcases un_some h with h | h
  · obtain ⟨y, h1, h2⟩ := a x xs h
    refine ⟨y, h1, fun z => h2 (un_none.mp z).1⟩
  · obtain ⟨y, h1, h2⟩ := b x xs h
    refine ⟨y, h1, fun z => h2 (un_none.mp z).2⟩
theorem Own.lay {A : Hp} {a : Addr} {o : HO} (h : Own A) (n : A a = none) (ho : ∀ xs, o = .tup xs → ∃ b, V.ref b ∈ xs ∧ A b ≠ none) : Own (upd A a o) := fun x xs e => by
  have up : ∀ b, A b ≠ none → upd A a o b ≠ none := fun b hb z => by
    by_cases c : b = a
    · subst c; rw [upd_same] at z; cases z
    · rw [upd_ne c] at z; exact hb z
  by_cases c : x = a
  · subst c
    rw [upd_same] at e
    obtain ⟨b, h1, h2⟩ := ho xs (Option.some.inj e)
    exact ⟨b, h1, up b h2⟩
  · rw [upd_ne c] at e
    obtain ⟨b, h1, h2⟩ := h x xs e
    exact ⟨b, h1, up b h2⟩
theorem Dn.ref {p : Pm} {G : Hp} : ∀ (d : D) {v : V} {F : Hp}, imm d = false → Dn p G d v F → ∃ b, v = .ref b ∧ F b ≠ none
  | .non, _, _, i, _ => nomatch i
  | .bl _, _, _, i, _ => nomatch i
  | .int _, _, _, i, _ => nomatch i
  | .str _, _, _, i, _ => nomatch i
  | .lst ds, _, _, _, h => by
    obtain ⟨a, xs, F', h1, h2, h3, rfl⟩ := h
    exact ⟨a, h1, by rw [upd_same]; exact fun z => nomatch z⟩
  | .tup ds, _, _, i, h => by
    rcases h with ⟨h0, _⟩ | ⟨_, a, xs, F', h1, h2, h3, rfl⟩
    · rw [show immA ds = false from i] at h0; cases h0
    · exact ⟨a, h1, by rw [upd_same]; exact fun z => nomatch z⟩
  | .scr _, _, _, _, h => nomatch h
  | .ins c fs, _, _, _, h => by
    obtain ⟨a, dx, xs, F', h1, h2, h3, rfl⟩ := h
    exact ⟨a, h1, by rw [upd_same]; exact fun z => nomatch z⟩
theorem DnA.ref {p : Pm} {G : Hp} : ∀ (ds : List D) {vs : List V} {F : Hp}, immA ds = false → DnA p G ds vs F → ∃ b, V.ref b ∈ vs ∧ F b ≠ none
  | [], _, _, i, _ => nomatch i
  | d :: ds, _, _, i, h => by
    obtain ⟨v, vs, F1, F2, rfl, h2, h3, h4, rfl⟩ := h
    cases q : imm d with
    | false =>
      obtain ⟨b, rfl, hb⟩ := Dn.ref d q h2
      exact ⟨b, List.mem_cons_self .., fun z => hb (un_none.mp z).1⟩
    | true =>
      have i2 : immA ds = false := by
        have : (imm d && immA ds) = false := i
        rw [q] at this; simpa using this
      obtain ⟨b, hm, hb⟩ := DnA.ref ds i2 h3
      exact ⟨b, List.mem_cons_of_mem _ hm, fun z => hb (un_none.mp z).2⟩
mutual
theorem Dn.own {p : Pm} {G : Hp} : ∀ (d : D) {v : V} {F : Hp}, Dn p G d v F → Own F
  | .non, _, _, h => by rw [h.2]; exact .nil
  | .bl _, _, _, h => by rw [h.2]; exact .nil
  | .int _, _, _, h => by rw [h.2]; exact .nil
  | .str _, _, _, h => by rw [h.2]; exact .nil
  | .lst ds, _, _, h => by
    obtain ⟨a, xs, F', h1, h2, h3, rfl⟩ := h
    exact (DnA.own ds h2).lay h3 fun _ z => nomatch z
  | .tup ds, _, _, h => by
    rcases h with ⟨_, _, h2⟩ | ⟨i, a, xs, F', h1, h2, h3, rfl⟩
    · rw [h2]; exact .nil
    · exact (DnA.own ds h2).lay h3 fun ys z => by
        cases z
        exact DnA.ref ds i h2
  | .scr _, _, _, h => nomatch h
  | .ins c fs, _, _, h => by
    obtain ⟨a, dx, xs, F', h1, h2, h3, rfl⟩ := h
    exact (DnF.own fs h2).lay h3 fun _ z => nomatch z
theorem DnA.own {p : Pm} {G : Hp} : ∀ (ds : List D) {vs : List V} {F : Hp}, DnA p G ds vs F → Own F
  | [], _, _, h => by rw [h.2]; exact .nil
  | d :: ds, _, _, h => by
    obtain ⟨v, vs, F1, F2, rfl, h2, h3, h4, rfl⟩ := h
    exact (Dn.own d h2).un (DnA.own ds h3) h4
theorem DnF.own {p : Pm} {G : Hp} : ∀ (ds : List (Str × D)) {vs : List (Str × V)} {F : Hp}, DnF p G ds vs F → Own F
  | [], _, _, h => by rw [h.2]; exact .nil
  | (f, d) :: ds, _, _, h => by
    obtain ⟨v, vs, F1, F2, rfl, h2, h3, h4, rfl⟩ := h
    exact (Dn.own d h2).un (DnF.own ds h3) h4
end
/-- G without F -/
def minus (G F : Hp) : Hp := fun a => match F a with
  | none => G a
  | some _ => none
theorem minus_some {G F : Hp} {a : Addr} {o : HO} (h : minus G F a = some o) : F a = none ∧ G a = some o := by
  unfold minus at h
  cases q : F a with
  | none => rw [q] at h; exact ⟨rfl, h⟩
  | some u => rw [q] at h; cases h
theorem minus_of {G F : Hp} {a : Addr} {o : HO} (h : F a = none) (k : G a = some o) : minus G F a = some o := by
  unfold minus; rw [h]; exact k
theorem minus_none {G F : Hp} {a : Addr} (h : G a = none) : minus G F a = none := by
  cases q : minus G F a with
  | none => rfl
  | some o => rw [(minus_some q).2] at h; cases h
mutual
theorem imm_off {p : Pm} {G F : Hp} (s : Same F G) (ow : Own F) : ∀ (d : D) {a : Addr}, imm d = true → Rp p G d (.ref a) → F a = none
  | .non, _, _, h => nomatch h
  | .bl _, _, _, h => nomatch h
  | .int _, _, _, h => nomatch h
  | .str _, _, _, h => nomatch h
  | .lst ds, _, i, _ => nomatch i
  | .tup ds, a, i, h => by
    obtain ⟨b, xs, e, h1, h2⟩ := h
    cases e
    cases q : F a with
    | none => rfl
    | some o =>
      rw [s a o q] at h1
      cases h1
      obtain ⟨c, h3, h4⟩ := ow a xs q
      exact absurd (immA_off s ow ds i h2 c h3) h4
  | .scr _, _, i, _ => nomatch i
  | .ins c fs, _, i, _ => nomatch i
theorem immA_off {p : Pm} {G F : Hp} (s : Same F G) (ow : Own F) : ∀ (ds : List D) {vs : List V}, immA ds = true → RpA p G ds vs → ∀ c, V.ref c ∈ vs → F c = none
  | [], _, _, h => fun c z => by rw [show _ = [] from h] at z; cases z
  | d :: ds, _, i, h => fun c z => by
    obtain ⟨v, vs, rfl, h2, h3⟩ := h
    have ii : imm d = true ∧ immA ds = true := by simpa [immA] using i
    rcases List.mem_cons.mp z with z | z
    · subst z; exact imm_off s ow d ii.1 h2
    · exact immA_off s ow ds ii.2 h3 c z
end
mutual
theorem Rp.minus {p : Pm} {G F : Hp} (s : Same F G) (ow : Own F) : ∀ (d : D) {v : V}, imm d = true → Rp p G d v → Rp p (minus G F) d v
  | .non, _, _, h => h
  | .bl _, _, _, h => h
  | .int _, _, _, h => h
  | .str _, _, _, h => h
  | .lst ds, _, i, _ => nomatch i
  | .tup ds, _, i, h => by
    obtain ⟨a, xs, rfl, h1, h2⟩ := h
    exact ⟨a, xs, rfl, minus_of (imm_off s ow (.tup ds) i ⟨a, xs, rfl, h1, h2⟩) h1, RpA.minus s ow ds i h2⟩
  | .scr _, _, i, _ => nomatch i
  | .ins c fs, _, i, _ => nomatch i
theorem RpA.minus {p : Pm} {G F : Hp} (s : Same F G) (ow : Own F) : ∀ (ds : List D) {vs : List V}, immA ds = true → RpA p G ds vs → RpA p (minus G F) ds vs
  | [], _, _, h => h
  | d :: ds, _, i, h => by
    obtain ⟨v, vs, rfl, h2, h3⟩ := h
    have ii : imm d = true ∧ immA ds = true := by simpa [immA] using i
    exact ⟨v, vs, rfl, Rp.minus s ow d ii.1 h2, RpA.minus s ow ds ii.2 h3⟩
end
mutual
theorem Dn.minus {p : Pm} {G F : Hp} (s : Same F G) (ow : Own F) : ∀ (d : D) {v : V} {N : Hp}, Dn p G d v N → Dn p (minus G F) d v N
  | .non, _, _, h => h
  | .bl _, _, _, h => h
  | .int _, _, _, h => h
  | .str _, _, _, h => h
  | .lst ds, _, _, h => by
    obtain ⟨a, xs, F', h1, h2, h3⟩ := h
    exact ⟨a, xs, F', h1, DnA.minus s ow ds h2, h3⟩
  | .tup ds, _, _, h => by
    rcases h with ⟨h0, h1, h2⟩ | ⟨h0, a, xs, F', h1, h2, h3⟩
    · exact .inl ⟨h0, Rp.minus s ow _ h0 h1, h2⟩
    · exact .inr ⟨h0, a, xs, F', h1, DnA.minus s ow ds h2, h3⟩
  | .scr _, _, _, h => nomatch h
  | .ins c fs, _, _, h => by
    obtain ⟨a, dx, xs, F', h1, h2, h3⟩ := h
    exact ⟨a, dx, xs, F', h1, DnF.minus s ow fs h2, h3⟩
theorem DnA.minus {p : Pm} {G F : Hp} (s : Same F G) (ow : Own F) : ∀ (ds : List D) {vs : List V} {N : Hp}, DnA p G ds vs N → DnA p (minus G F) ds vs N
  | [], _, _, h => h
  | d :: ds, _, _, h => by
    obtain ⟨v, vs, F1, F2, h1, h2, h3, h4⟩ := h
    exact ⟨v, vs, F1, F2, h1, Dn.minus s ow d h2, DnA.minus s ow ds h3, h4⟩
theorem DnF.minus {p : Pm} {G F : Hp} (s : Same F G) (ow : Own F) : ∀ (ds : List (Str × D)) {vs : List (Str × V)} {N : Hp}, DnF p G ds vs N → DnF p (minus G F) ds vs N
  | [], _, _, h => h
  | (f, d) :: ds, _, _, h => by
    obtain ⟨v, vs, F1, F2, h1, h2, h3, h4⟩ := h
    exact ⟨v, vs, F1, F2, h1, Dn.minus s ow d h2, DnF.minus s ow ds h3, h4⟩
end
/-- r, frozen, stands for d -/
def Fz (r : Rs) (d : D) : Prop := ∀ {p : Pm} {G : Hp} {v : V} {F : Hp}, Dj F G → r.R p G v F → Rp p (un G F) d v ∧ Own F
theorem fz_dn {d : D} : Fz (dn d) d := fun dj h => ⟨by rw [un_comm0 dj.symm]; exact Dn.rp _ dj h, Dn.own _ h⟩
theorem fz_dnAt {x : Addr} {d : D} : Fz (dnAt x d) d := fun dj h => ⟨by rw [un_comm0 dj.symm]; exact Dn.rp _ dj h.2, Dn.own _ h.2⟩
theorem fz_own {ds : List D} : Fz (own ds) (.lst ds) := fun {p G v F} dj h => by
  obtain ⟨l, vs, rfl, rfl, h3⟩ := h
  refine ⟨⟨l, vs, rfl, same_un2 dj.symm _ _ upd_same, RpA.mono same_un1 _ h3⟩, fun a xs q => ?_⟩
  obtain ⟨_, q⟩ := sing_iff.mp q
  cases q
section
variable {p : Pm} {env env' env2 : List Sl} {σ : St} {G0 H0 G H : Hp}
theorem Sts.freezeR {i : Nat} {r : Rs} {d : D} (s : Sts p G0 H0 env σ G H) (e : env[i]? = some (.rs r)) (z : Fz r d) : ∃ F, Dj F G ∧ Own F ∧ Sts p G0 H0 (env.set i (.va d)) σ (un G F) H := by
  obtain ⟨Fs, f⟩ := s.rs
  obtain ⟨v, a1, a2, a3, a4⟩ := f.wh i _ e
  have dj : Dj (Fs i) G := fun a o h => (a4 a o h).1
  have sg : Same G (un G (Fs i)) := same_un1
  refine ⟨Fs i, dj, (z dj a2).2, ⟨s.gr.g.trans sg, un_same s.gr.s a3, s.gr.h, fun a o h k => ?_⟩, by simp [s.len], fun j d' q => ?_, Fs, fun j r' q => ?_, fun j k r1 r2 a o n q q' => ?_⟩
  · rcases un_some h with h | h
    · exact s.gr.n a o h k
    · exact (a4 a o h).2
  · rcases set_get q with ⟨rfl, q, hi⟩ | ⟨hj, q⟩
    · cases q
      exact ⟨v, a1, (z dj a2).1⟩
    · exact (s.va j d' q).imp fun v h => ⟨h.1, Rp.mono sg _ h.2⟩
  · rcases set_get q with ⟨rfl, q, hi⟩ | ⟨hj, q⟩
    · cases q
    · obtain ⟨v', b1, b2, b3, b4⟩ := f.wh j r' q
      refine ⟨v', b1, r'.mono sg b2, b3, fun a o h => ⟨un_none.mpr ⟨(b4 a o h).1, f.ap j i _ _ a o (Ne.symm hj) q e h⟩, (b4 a o h).2⟩⟩
  · rcases set_get q with ⟨_, q, _⟩ | ⟨_, q⟩
    · cases q
    · rcases set_get q' with ⟨_, q', _⟩ | ⟨_, q'⟩
      · cases q'
      · exact f.ap j k r1 r2 a o n q q'
/-- some of the slots frozen -/
inductive Frz : List Sl → List Sl → Prop
  | refl {e : List Sl} : Frz e e
  | dn {e e' : List Sl} (i : Nat) {d : D} : e[i]? = some (.rs (PU.dn d)) → Frz (e.set i (.va d)) e' → Frz e e'
  | dnAt {e e' : List Sl} (i : Nat) {x : Addr} {d : D} : e[i]? = some (.rs (PU.dnAt x d)) → Frz (e.set i (.va d)) e' → Frz e e'
  | ow {e e' : List Sl} (i : Nat) {ds : List D} : e[i]? = some (.ow ds) → Frz (e.set i (.va (.lst ds))) e' → Frz e e'
theorem Frz.sts (z : Frz env env') : ∀ {G : Hp}, Sts p G0 H0 env σ G H → ∃ F, Dj F G ∧ Own F ∧ Sts p G0 H0 env' σ (un G F) H := by
  have comp : ∀ {e e' e2 : List Sl} {G : Hp}, (∃ F, Dj F G ∧ Own F ∧ Sts p G0 H0 e σ (un G F) H) → (∀ {G : Hp}, Sts p G0 H0 e σ G H → ∃ F, Dj F G ∧ Own F ∧ Sts p G0 H0 e' σ (un G F) H) → ∃ F, Dj F G ∧ Own F ∧ Sts p G0 H0 e' σ (un G F) H := by
    intro e e' e2 G h ih
    obtain ⟨F1, d1, o1, s1⟩ := h
    obtain ⟨F2, d2, o2, s2⟩ := ih s1
    have dd : Dj F1 F2 := fun a o q => by
      cases w : F2 a with
      | none => rfl
      | some u =>
        have h5 := (un_none.mp (d2 a u w)).2
        rw [q] at h5; cases h5
    refine ⟨un F1 F2, fun a o q => ?_, o1.un o2 dd, by rw [← un_assoc]; exact s2⟩
    rcases un_some q with q | q
    · exact d1 a o q
    · exact (un_none.mp (d2 a o q)).1
  induction z with
  | refl => exact fun s => ⟨nil, dj_nil, .nil, by rw [un_nil]; exact s⟩
  | dn i e _ ih => exact fun s => comp (e2 := []) (s.freezeR e fz_dn) ih
  | dnAt i e _ ih => exact fun s => comp (e2 := []) (s.freezeR e fz_dnAt) ih
  | ow i e _ ih => exact fun s => comp (e2 := []) (s.freezeR e fz_own) ih
/-- what came to be known while F was frozen -/
theorem Gr.unfrz {F G1 H1 : Hp} (sG : Same G H) (dj : Dj F G) (g : Gr (un G F) G1 H H1) : Gr G (minus G1 F) H H1 ∧ Same F G1 := by
  have sF : Same F G1 := fun a o q => g.g a o (same_un2 dj.symm a o q)
  refine ⟨⟨fun a o q => ?_, fun a o q => g.s a o (minus_some q).2, g.h, fun a o q k => ?_⟩, sF⟩
  · refine minus_of ?_ (g.g a o (same_un1 a o q))
    cases w : F a with
    | none => rfl
    | some u => rw [dj a u w] at q; cases q
  · obtain ⟨q1, q2⟩ := minus_some q
    exact g.n a o q2 (un_none.mpr ⟨k, q1⟩)
end
section
variable {p : Pm} {env env' : List Sl} {te ta tb : TE} {tt : TT} {α β : Type} [Enc α] [Enc β]
theorem ev_frz [Imm α] {m : Option α} (z : Frz env env') (h : Ev p false te env' m) : Ev p false te env m := fun x e G0 H0 σ G H st Q k => by
  obtain ⟨F, dj, ow, st'⟩ := z.sts st
  refine h x e G0 H0 σ _ H st' Q fun v G1 H1 g r => ?_
  obtain ⟨g2, sF⟩ := g.unfrz st.gr.s dj
  exact k v _ H1 g2 (Rp.minus sF ow _ (Imm.im x) r)
/-- a new list of what is unchangeable -/
theorem ev_frzO [Imm α] {m : Option (List α)} (z : Frz env env') (h : Ev p true te env' m) : Ev p true te env m := fun x e G0 H0 σ G H st Q k => by
  obtain ⟨F, dj, ow, st'⟩ := z.sts st
  refine h x e G0 H0 σ _ H st' Q fun v G1 H1 g r => ?_
  obtain ⟨g2, sF⟩ := g.unfrz st.gr.s dj
  obtain ⟨l, vs, ds, r1, r2, r3, r4, r5, r6⟩ := r
  refine k v _ H1 g2 ⟨l, vs, ds, r1, r2, r3, minus_none r4, r5, RpA.minus sF ow ds ?_ r6⟩
  have e3 : ds = x.map enc := by
    injection r2 with r2
    exact r2.symm
  rw [e3]
  exact immA_map x
theorem en_frz {m : Option α} (z : Frz env env') (h : EvN p te env' m) : EvN p te env m := fun x e G0 H0 σ G H st Q k => by
  obtain ⟨F, dj, ow, st'⟩ := z.sts st
  refine h x e G0 H0 σ _ H st' Q fun v G1 H1 N g sN nN r => ?_
  obtain ⟨g2, sF⟩ := g.unfrz st.gr.s dj
  exact k v _ H1 N g2 sN (fun a o q => ⟨(nN a o q).1, minus_none (nN a o q).2⟩) (Dn.minus sF ow _ r)
theorem et_frz {m : Option Bool} (z : Frz env env') (h : EvT p tt env' m) : EvT p tt env m := fun x e G0 H0 σ G H st Q k => by
  obtain ⟨F, dj, ow, st'⟩ := z.sts st
  refine h x e G0 H0 σ _ H st' Q fun G1 H1 g => ?_
  obtain ⟨g2, sF⟩ := g.unfrz st.gr.s dj
  exact k _ H1 g2
end
end PU

set_option Elab.async false
set_option maxRecDepth 100000
set_option linter.all false
/-! PU13: a place within what is one's own. -/
namespace PU
open PySem L2
open Enc
theorem un_comm {A B : Hp} (d : Dj A B) : un A B = un B A := un_comm0 d
theorem dj_un {A B C : Hp} (h : Dj A (un B C)) : Dj A B ∧ Dj A C := ⟨fun a o e => (un_none.mp (h a o e)).1, fun a o e => (un_none.mp (h a o e)).2⟩
theorem un_dj {A B C : Hp} (h : Dj A B) (k : Dj A C) : Dj A (un B C) := fun a o e => un_none.mpr ⟨h a o e, k a o e⟩
theorem un_upd {A B : Hp} {a : Addr} {o : HO} (h : A a = none) : upd (un A B) a o = un A (upd B a o) := by
  funext b
  unfold un
  by_cases c : b = a
  · subst c
    rw [upd_same, h]
    simp only
    rw [upd_same]
  · rw [upd_ne c]
    cases A b with
    | some u => rfl
    | none => simp only; rw [upd_ne c]
theorem dj_upd {A B : Hp} {a : Addr} {o : HO} (h : Dj A (upd B a o)) : Dj A B ∧ A a = none := by
  constructor
  · intro b u e
    have := h b u e
    by_cases c : b = a
    · subst c; rw [upd_same] at this; cases this
    · rw [upd_ne c] at this; exact this
  · cases q : A a with
    | none => rfl
    | some u =>
      have := h a u q
      rw [upd_same] at this
      cases this
variable {p : Pm}
theorem DnA.split {G : Hp} : ∀ {ds : List D} {xs : List V} {F : Hp} {j : Nat} {d : D}, DnA p G ds xs F → ds[j]? = some d → ∃ w Fj Fo, xs[j]? = some w ∧ Dn p G d w Fj ∧ Dj Fj Fo ∧ F = un Fj Fo ∧ ∀ G' d' Fj', Same G G' → Dn p G' d' w Fj' → Dj Fj' Fo → DnA p G' (ds.set j d') xs (un Fj' Fo)
  | [], _, _, _, _, _, e => by cases e
  | d0 :: ds, xs, F, 0, d, h, e => by
    cases e
    obtain ⟨v, vs, F1, F2, rfl, h1, h2, h3, rfl⟩ := h
    exact ⟨v, F1, F2, rfl, h1, h3, rfl, fun G' d' Fj' sg k1 k2 => ⟨v, vs, Fj', F2, rfl, k1, DnA.mono sg _ h2, k2, rfl⟩⟩
  | d0 :: ds, xs, F, j + 1, d, h, e => by
    obtain ⟨v, vs, F1, F2, rfl, h1, h2, h3, rfl⟩ := h
    obtain ⟨w, Fj, Fo, q1, q2, q3, rfl, q4⟩ := DnA.split (j := j) h2 (by simpa using e)
    obtain ⟨d1, d2⟩ := dj_un h3
    refine ⟨w, Fj, un F1 Fo, by simpa using q1, q2, un_dj d1.symm q3, ?_, fun G' d' Fj' sg k1 k2 => ?_⟩
    · rw [← un_assoc, un_comm d1, un_assoc]
    · obtain ⟨k3, k4⟩ := dj_un k2
      refine ⟨v, vs, F1, un Fj' Fo, rfl, Dn.mono sg _ h1, q4 G' d' Fj' sg k1 k4, un_dj k3.symm d2, ?_⟩
      rw [← un_assoc, un_comm k3, un_assoc]
/-- the whole numbers that slots hold -/
def Ints (env : List Sl) (σ : St) : Prop := ∀ (j : Nat) (k : Int), env[j]? = some (.va (.int k)) → σ[j]? = some (some (.int k))
theorem Sts.ints {env : List Sl} {σ : St} {G0 H0 G H : Hp} (s : Sts p G0 H0 env σ G H) : Ints env σ := fun j k e => by
  obtain ⟨v, h1, h2⟩ := s.va j _ e
  cases (show v = .int k from h2)
  exact h1
structure Lens (p : Pm) (env : List Sl) (te : TE) (i : Nat) {α β : Type} [Enc α] [Enc β] (x : α) (g : Option β) (put : β → Option α) : Prop where
  run : ∀ {σ : St} {G H F : Hp} {v : V} {b : β}, Ints env σ → σ[i]? = some (some v) → Dn p G (enc x) v F → Same F H → g = some b →
    ∃ u Fe Fr, (∀ Q : VK, Q u H → te σ H Q) ∧ Dn p G (enc b) u Fe ∧ Dj Fe Fr ∧ F = un Fe Fr ∧ ∀ G' b' x' Fe', Same G G' → put b' = some x' → Dn p G' (enc b') u Fe' → Dj Fe' Fr → Dn p G' (enc x') v (un Fe' Fr)
section
variable {env : List Sl} {α β γ : Type} [Enc α] [Enc β] [Enc γ] {te tk : TE} {i : Nat} {x : α}
theorem lens_var : Lens p env (tVar i) i x (some x) some where
  run := fun {σ G H F v b} h0 h1 h2 h3 e => by
    cases e
    exact ⟨v, F, nil, fun Q q => ⟨v, h1, q⟩, h2, fun a o _ => rfl, (un_nil F).symm, fun G' b' x' Fe' _ e k _ => by cases e; rw [un_nil]; exact k⟩
def TK (env : List Sl) (tk : TE) (k : Int) : Prop := ∀ σ H (Q : VK), Ints env σ → Q (.int k) H → tk σ H Q
theorem tk_var {j : Nat} {k : Int} (h : env[j]? = some (.va (enc k))) : TK env (tVar j) k := fun σ H Q s q => ⟨_, s j k h, q⟩
theorem lens_ix {k : Int} {g : Option (List γ)} {put : List γ → Option α} (L : Lens p env te i x g put) (hk : TK env tk k) : Lens p env (tOp (rIxL p.K) te tk) i x (g.bind fun l => atI l k) (fun c => g.bind fun l => (seti? l k c).bind put) where
  run := fun {σ G H F v c} h0 h1 h2 h3 e => by
    obtain ⟨l, e1, e⟩ := bind_some e
    obtain ⟨u, Fe, Fr, q1, ⟨a, xs, F', rfl, d1, d2, rfl⟩, q3, rfl, q4⟩ := L.run h0 h1 h2 h3 e1
    have hl : l.length = xs.length := by
      have := d1.length
      rw [← this, List.length_map]
    unfold atI at e
    obtain ⟨j, ej, e⟩ := bind_some e
    obtain ⟨w, Fj, Fo, z1, z2, z3, rfl, z4⟩ := DnA.split (j := j) (d := enc c) d1 (by rw [List.getElem?_map, e]; rfl)
    have na := un_none.mp d2
    have eU : upd (un Fj Fo) a (.lst xs) = un Fj (upd Fo a (.lst xs)) := un_upd na.1
    have hH : H a = some (.lst xs) := h3 _ _ (same_un1 _ _ upd_same)
    rw [eU] at q3
    have dFr : Dj Fj Fr := fun b o h => q3 b o (by unfold un; rw [h])
    have dOr : Dj (upd Fo a (.lst xs)) Fr := fun b o h => q3 b o (by
      unfold un
      cases q : Fj b with
      | none => exact h
      | some u =>
        exfalso
        by_cases cb : b = a
        · subst cb; rw [na.1] at q; cases q
        · rw [upd_ne cb] at h
          rw [z3 b u q] at h; cases h)
    refine ⟨w, Fj, un (upd Fo a (.lst xs)) Fr, fun Q q => q1 _ (hk _ _ _ h0 ⟨a, xs, k, w, rfl, rfl, .of hH, ?_, q⟩), z2, un_dj ?_ dFr, by rw [eU, un_assoc], fun G' c' x' Fj' sg e' k1 k2 => ?_⟩
    · unfold atI
      rw [← hl, ej]
      exact z1
    · intro b o h
      by_cases cb : b = a
      · subst cb; rw [na.1] at h; cases h
      · rw [upd_ne cb]; exact z3 b o h
    · rw [e1] at e'
      obtain ⟨l', s1, s2⟩ := bind_some (show (seti? l k c').bind put = some x' from e')
      unfold seti? at s1
      rw [ej] at s1
      cases s1
      obtain ⟨k3, k4⟩ := dj_un k2
      obtain ⟨k5, k6⟩ := dj_upd k3
      have n1 : DnA p G' ((l.map enc).set j (enc c')) xs (un Fj' Fo) := z4 _ _ _ sg k1 k5
      have n2 : Dn p G' (enc (l.set j c')) (.ref a) (un Fj' (upd Fo a (.lst xs))) := ⟨a, xs, un Fj' Fo, rfl, by rw [List.map_set]; exact n1, un_none.mpr ⟨k6, na.2⟩, (un_upd k6).symm⟩
      have n3 := q4 _ _ _ _ sg s2 n2 (fun b o h => by
        rcases un_some h with h | h
        · exact k4 b o h
        · exact dOr b o h)
      rw [un_assoc] at n3
      exact n3
end
end PU

set_option Elab.async false
set_option maxRecDepth 100000
set_option linter.all false
/-! PU14: changes at a place within what is one's own. -/
namespace PU
open PySem L2
open Enc
section
variable {p : Pm} {env : List Sl} {σ : St} {G0 H0 G H : Hp}
theorem Sts.writeL {i : Nat} {r : Rs} (s : Sts p G0 H0 env σ G H) (e : env[i]? = some (.rs r)) : ∃ v F, σ[i]? = some (some v) ∧ r.R p G v F ∧ Same F H ∧ ∀ G1 H1, Gr G G1 H H1 → r.R p G1 v F ∧ (∀ a o, F a = some o → G1 a = none ∧ H0 a = none) ∧
    ∀ (r' : Rs) v' F' H', Wr2 G1 H H1 F F' H' → r'.R p G1 v' F' → Sts p G0 H0 (env.set i (.rs r')) (σ.set i (some v')) G1 H' := by
  obtain ⟨Fs, f⟩ := s.rs
  obtain ⟨v, a1, a2, a3, a4⟩ := f.wh i r e
  refine ⟨v, Fs i, a1, a2, a3, fun G1 H1 g => ?_⟩
  have f1 := f.step g
  have s1 := s.step g
  obtain ⟨v', b1, b2, b3, b4⟩ := f1.wh i r e
  rw [a1] at b1
  cases b1
  refine ⟨b2, b4, fun r' v' F' H' w h => ?_⟩
  -- what stood at H, or is known, and is not of F, stays
  have keep : ∀ {X : Hp}, Same X H1 → (∀ a o, X a = some o → Fs i a = none) → (∀ a o, X a = some o → G1 a = none → H a = none → False) → Same X H' := fun {X} sx d1 d2 a o q => by
    have h1 := d1 a o q
    cases z : F' a with
    | none => rw [w.off a h1 z]; exact sx a o q
    | some u =>
      obtain ⟨c1, c2⟩ := w.new a u z h1
      exact (d2 a o q c2 c1).elim
  have dj : ∀ {X : Hp}, (∀ a o, X a = some o → Fs i a = none) → (∀ a o, X a = some o → G1 a = none → H a = none → False) → ∀ a o, F' a = some o → X a = none := fun {X} d1 d2 a o q => by
    cases z : X a with
    | none => rfl
    | some u =>
      obtain ⟨c1, c2⟩ := w.new a o q (d1 a u z)
      exact (d2 a u z c2 c1).elim
  have dG1 : ∀ a o, G1 a = some o → Fs i a = none := fun a o q => by
    cases z : Fs i a with
    | none => rfl
    | some u => rw [(b4 a u z).1] at q; cases q
  have dG2 : ∀ a o, G1 a = some o → G1 a = none → H a = none → False := fun a o q c _ => by rw [q] at c; cases c
  have dH1 : ∀ a o, H0 a = some o → Fs i a = none := fun a o q => by
    cases z : Fs i a with
    | none => rfl
    | some u => rw [(b4 a u z).2] at q; cases q
  have dH2 : ∀ a o, H0 a = some o → G1 a = none → H a = none → False := fun a o q _ c => by
    have := s.gr.h a o q
    rw [c] at this; cases this
  have dF1 : ∀ j r1, i ≠ j → env[j]? = some (.rs r1) → ∀ a o, Fs j a = some o → Fs i a = none := fun j r1 n ej a o q => f.ap j i r1 r a o (Ne.symm n) ej e q
  have dF2 : ∀ j r1, env[j]? = some (.rs r1) → ∀ a o, Fs j a = some o → G1 a = none → H a = none → False := fun j r1 ej a o q _ c => by
    obtain ⟨_, _, _, c3, _⟩ := f.wh j r1 ej
    have := c3 a o q
    rw [c] at this; cases this
  refine ⟨⟨s1.gr.g, keep s1.gr.s dG1 dG2, keep s1.gr.h dH1 dH2, s1.gr.n⟩, by simp [s.len], va_set_rs s1.va, fun j => if i = j then F' else Fs j, fun j r1 e1 => ?_, fun j l r1 r2 a o n e1 e2 q => ?_⟩
  · rcases set_get e1 with ⟨rfl, q, hi⟩ | ⟨hj, e1⟩
    · cases q
      refine ⟨v', by rw [List.getElem?_set_self (by rw [s.len]; exact hi)], ?_⟩
      simp only [if_true]
      exact ⟨h, w.on, fun a o q => ⟨dj dG1 dG2 a o q, dj dH1 dH2 a o q⟩⟩
    · rw [List.getElem?_set_ne hj]
      simp only [if_neg hj]
      obtain ⟨v1, c1, c2, c3, c4⟩ := f1.wh j r1 e1
      exact ⟨v1, c1, c2, keep c3 (dF1 j r1 hj e1) (dF2 j r1 e1), c4⟩
  · rcases set_get e1 with ⟨rfl, _, _⟩ | ⟨hj, e1⟩
    · simp only [if_true] at q
      simp only [if_neg n]
      rcases set_get e2 with ⟨z, _, _⟩ | ⟨hk, e2⟩
      · exact absurd z n
      · exact dj (dF1 l r2 hk e2) (dF2 l r2 e2) a o q
    · simp only [if_neg hj] at q
      rcases set_get e2 with ⟨rfl, _, _⟩ | ⟨hk, e2⟩
      · simp only [if_true]
        cases z : F' a with
        | none => rfl
        | some u =>
          have := dj (dF1 j r1 hj e1) (dF2 j r1 e1) a u z
          rw [q] at this; cases this
      · simp only [if_neg hk]
        exact f.ap j l r1 r2 a o n e1 e2 q
end
/-- one's own through and through, its value told or not -/
class Dl (r : D → Rs) : Prop where
  of : ∀ {p : Pm} {G : Hp} {v : V} {F : Hp} {d : D}, (r d).R p G v F → Dn p G d v F
  back : ∀ {p : Pm} {G G' : Hp} {v : V} {F F' : Hp} {d d' : D}, (r d).R p G v F → Dn p G' d' v F' → (r d').R p G' v F'
instance : Dl dn := ⟨fun h => h, fun _ h => h⟩
instance {x : Addr} : Dl (dnAt x) := ⟨fun h => h.2, fun h k => ⟨h.1, k⟩⟩
section
variable {p : Pm} {env : List Sl} {te ta tz : TE} {r : D → Rs} [Dl r] {α β γ ρ : Type} [Enc α] [Enc β] [Enc γ] {Po : Post ρ} {i : Nat} {x : α}
/-- a list at a place within what is one's own, changed where it stands: l becomes l' -/
theorem Sts.lensW {σ : St} {G0 H0 G H : Hp} {g : Option (List γ)} {put : List γ → Option α} {l : List γ} (st : Sts p G0 H0 env σ G H) (h : env[i]? = some (.rs (r (enc x)))) (L : Lens p env te i x g put) (hg : g = some l) :
    ∃ a xs F' , (∀ Q : VK, Q (.ref a) H → te σ H Q) ∧ H a = some (.lst xs) ∧ DnA p G (l.map enc) xs F' ∧ Same F' H ∧ F' a = none ∧
      ∀ G1 H1 N l' x' xs' F'', Gr G G1 H H1 → Same N H1 → (∀ a o, N a = some o → H a = none ∧ G1 a = none) → put l' = some x' → DnA p G1 (l'.map enc) xs' F'' → (∀ b o, F'' b = some o → F' b = some o ∨ N b = some o) →
        Sts p G0 H0 (env.set i (.rs (r (enc x')))) σ G1 (upd H1 a (.lst xs')) := by
  obtain ⟨v, F, a1, a2, a3, wr⟩ := st.writeL h
  obtain ⟨u, Fe, Fr, q1, ⟨a, xs, F', rfl, d1, d2, rfl⟩, q3, rfl, q4⟩ := L.run st.ints a1 (Dl.of a2) a3 hg
  have hFa : un (upd F' a (.lst xs)) Fr a = some (.lst xs) := same_un1 _ _ upd_same
  have sF' : Same F' (un (upd F' a (.lst xs)) Fr) := (same_new d2).trans same_un1
  refine ⟨a, xs, F', q1, a3 _ _ hFa, d1, sF'.trans a3, d2, fun G1 H1 N l' x' xs' F'' g sN nN hp dA sub => ?_⟩
  obtain ⟨w1, w2, w3⟩ := wr G1 H1 g
  have Fra : Fr a = none := q3 a _ upd_same
  have na : F'' a = none := by
    cases z : F'' a with
    | none => rfl
    | some o =>
      rcases sub a o z with z | z
      · rw [d2] at z; cases z
      · have := (nN a o z).1
        rw [a3 _ _ hFa] at this; cases this
  have djn : Dj (upd F'' a (.lst xs')) Fr := fun b o z => by
    by_cases c : b = a
    · subst c; exact Fra
    · rw [upd_ne c] at z
      rcases sub b o z with z | z
      · exact q3 b o (by rw [upd_ne c]; exact z)
      · cases y : Fr b with
        | none => rfl
        | some o' =>
          have := a3 b o' (by unfold un; rw [show upd F' a (.lst xs) b = none from by
            cases y2 : upd F' a (.lst xs) b with
            | none => rfl
            | some o2 => rw [q3 b o2 y2] at y; cases y]; exact y)
          rw [(nN b o z).1] at this; cases this
  have nd := q4 G1 l' x' (upd F'' a (.lst xs')) g.g hp ⟨a, xs', F'', rfl, dA, na, rfl⟩ djn
  have fin := wr G1 H1 g
  have es : σ = σ.set i (some v) := by
    obtain ⟨hi, he⟩ := List.getElem?_eq_some_iff.mp a1
    rw [← he, List.set_getElem_self]
  rw [es]
  refine w3 (r (enc x')) v (un (upd F'' a (.lst xs')) Fr) _ ⟨fun b o z => ?_, fun b z1 z2 => ?_, fun b o z1 z2 => ?_⟩ (Dl.back a2 nd)
  · rcases un_some z with y0 | y0
    · by_cases c : b = a
      · subst c; rw [upd_same] at y0 ⊢; exact y0
      · rw [upd_ne c] at y0 ⊢
        rcases sub b o y0 with y1 | y1
        · exact g.h _ _ (a3 _ _ (sF' _ _ y1))
        · exact sN _ _ y1
    · have c : b ≠ a := fun c => by rw [c, Fra] at y0; cases y0
      rw [upd_ne c]
      refine g.h _ _ (a3 b o ?_)
      unfold un
      cases y : upd F' a (.lst xs) b with
      | none => exact y0
      | some o' => rw [q3 b o' y] at y0; cases y0
  · have c : b ≠ a := fun c => by rw [c, hFa] at z1; cases z1
    rw [upd_ne c]
  · rcases un_some z1 with y0 | y0
    · by_cases c : b = a
      · rw [c, hFa] at z2; cases z2
      · rw [upd_ne c] at y0
        rcases sub b o y0 with y1 | y1
        · have := sF' _ _ y1
          rw [z2] at this; cases this
        · exact nN b o y1
    · have := (un_none.mp z2).2
      rw [this] at y0; cases y0
end
end PU

set_option Elab.async false
set_option maxRecDepth 100000
set_option linter.all false
/-! PU15: append, reverse, pop at a place within what is one's own. -/
namespace PU
open PySem L2
open Enc
variable {p : Pm} {G : Hp}
theorem DnA.take : ∀ {ds : List D} {xs : List V} {F : Hp} (n : Nat), DnA p G ds xs F → ∃ F', DnA p G (ds.take n) (xs.take n) F' ∧ ∀ a o, F' a = some o → F a = some o
  | [], xs, F, n, h => by
    obtain ⟨rfl, rfl⟩ := h
    exact ⟨nil, by simp only [List.take_nil]; exact ⟨rfl, rfl⟩, fun a o e => by cases e⟩
  | d :: ds, xs, F, 0, h => ⟨nil, by simp only [List.take_zero]; exact ⟨rfl, rfl⟩, fun a o e => by cases e⟩
  | d :: ds, xs, F, n + 1, h => by
    obtain ⟨v, vs, F1, F2, rfl, h1, h2, h3, rfl⟩ := h
    obtain ⟨F', k1, k2⟩ := DnA.take n h2
    refine ⟨un F1 F', ⟨v, vs.take n, F1, F', rfl, h1, k1, fun a o e => ?_, rfl⟩, fun a o e => ?_⟩
    · cases q : F' a with
      | none => rfl
      | some u =>
        have h5 := k2 a u q
        rw [h3 a o e] at h5; cases h5
    · rcases un_some e with e | e
      · exact same_un1 _ _ e
      · exact same_un2 h3 _ _ (k2 a o e)
theorem DnA.drop1 {d : D} {ds : List D} {xs : List V} {F : Hp} (h : DnA p G (d :: ds) xs F) : ∃ F', DnA p G ds (xs.drop 1) F' ∧ ∀ a o, F' a = some o → F a = some o := by
  obtain ⟨v, vs, F1, F2, rfl, h1, h2, h3, rfl⟩ := h
  exact ⟨F2, h2, fun a o e => same_un2 h3 _ _ e⟩
theorem DnA.len : ∀ {ds : List D} {xs : List V} {F : Hp}, DnA p G ds xs F → xs.length = ds.length := fun h => h.length.symm
theorem DnA.rev : ∀ {ds : List D} {xs : List V} {F : Hp}, DnA p G ds xs F → DnA p G ds.reverse xs.reverse F
  | [], xs, F, h => by
    obtain ⟨rfl, rfl⟩ := h
    exact ⟨rfl, rfl⟩
  | d :: ds, xs, F, h => by
    obtain ⟨v, vs, F1, F2, rfl, h1, h2, h3, rfl⟩ := h
    rw [List.reverse_cons, List.reverse_cons, un_comm h3]
    exact DnA.append (DnA.rev h2) (DnA.one h1) h3.symm
section
variable {env : List Sl} {te ta : TE} {tz : TS} {w : D → Rs} [Dl w] {α β γ ρ : Type} [Enc α] [Enc β] [Enc γ] {Po : Post ρ} {i : Nat} {x : α}
theorem k_appL {g : Option (List γ)} {put : List γ → Option α} {me : Option γ} {rest : α → Option ρ} (h : env[i]? = some (.rs (w (enc x)))) (L : Lens p env te i x g put) (he : EvN p ta env me) (k : ∀ x', Bk p tz (env.set i (.rs (w (enc x')))) (rest x') Po) :
    Bk p (tSeq (tDrop (tBM p.K "list" rAppend te (tCons ta tNil))) tz) env (g.bind fun l => me.bind fun e => (app? l e).bind fun l' => (put l').bind rest) Po := fun r e G0 H0 σ G H st D q => by
  obtain ⟨l, e1, f1⟩ := bind_some e
  obtain ⟨y, e2, f2⟩ := bind_some f1
  obtain ⟨l', e3, f3⟩ := bind_some f2
  obtain ⟨x', e4, f4⟩ := bind_some f3
  obtain ⟨a, xs, F', q1, q2, q3, q4, q5, q6⟩ := st.lensW h L e1
  unfold app? at e3
  split at e3
  · rename_i hl
    cases e3
    refine q1 _ ⟨.inl ⟨rfl, _, .of q2⟩, ?_⟩
    refine he y e2 G0 H0 σ G H st _ fun v G1 H1 N g1 sN nN r1 => ?_
    have ll := DnA.len q3
    rw [List.length_map] at ll
    refine ⟨a, xs, v, rfl, rfl, g1.h _ _ q2, Nat.lt_of_le_of_lt (show xs.length ≤ 100000 by omega) (by decide), ?_⟩
    have dj : Dj F' N := fun b o z => by
      cases w : N b with
      | none => rfl
      | some u =>
        have h5 := q4 b o z
        rw [(nN b u w).1] at h5; cases h5
    refine k x' r f4 G0 H0 σ G1 _ (q6 G1 H1 N _ x' _ (un F' N) g1 sN nN e4 (by rw [List.map_append]; exact DnA.append (DnA.mono g1.g _ q3) (DnA.one r1) dj) fun b o z => un_some z) D (Po.mono g1.g q)
  · cases e3
theorem k_revL {g : Option (List γ)} {put : List γ → Option α} {rest : α → Option ρ} (h : env[i]? = some (.rs (w (enc x)))) (L : Lens p env te i x g put) (k : ∀ x', Bk p tz (env.set i (.rs (w (enc x')))) (rest x') Po) :
    Bk p (tSeq (tDrop (tBM0 p.K "list" rReverse te)) tz) env (g.bind fun l => (put l.reverse).bind rest) Po := fun r e G0 H0 σ G H st D q => by
  obtain ⟨l, e1, e⟩ := bind_some e
  obtain ⟨x', e4, e⟩ := bind_some e
  obtain ⟨a, xs, F', q1, q2, q3, q4, q5, q6⟩ := st.lensW h L e1
  refine q1 _ ⟨.inl ⟨rfl, _, .of q2⟩, a, xs, rfl, rfl, q2, ?_⟩
  exact k x' r e G0 H0 σ G _ (q6 G H nil _ x' _ F' (.refl st.gr.s) (fun b o z => by cases z) (fun b o z => by cases z) e4 (by rw [List.map_reverse]; exact DnA.rev q3) fun b o z => .inl z) D (Po.mono (.refl _) q)
theorem k_popL {g : Option (List γ)} {put : List γ → Option α} {rest : α → Option ρ} (h : env[i]? = some (.rs (w (enc x)))) (L : Lens p env te i x g put) (k : ∀ x', Bk p tz (env.set i (.rs (w (enc x')))) (rest x') Po) :
    Bk p (tSeq (tDrop (tBM0 p.K "list" rPop te)) tz) env (g.bind fun l => if l = [] then none else (put l.dropLast).bind rest) Po := fun r e G0 H0 σ G H st D q => by
  obtain ⟨l, e1, e⟩ := bind_some e
  split at e
  · cases e
  · rename_i hne
    obtain ⟨x', e4, e⟩ := bind_some e
    obtain ⟨a, xs, F', q1, q2, q3, q4, q5, q6⟩ := st.lensW h L e1
    have ll := DnA.len q3
    rw [List.length_map] at ll
    have lp := List.length_pos_iff.mpr hne
    obtain ⟨F2, k1, k2⟩ := DnA.take (l.length - 1) q3
    refine q1 _ ⟨.inl ⟨rfl, _, .of q2⟩, a, xs, xs[xs.length - 1], rfl, rfl, q2, List.getElem?_eq_getElem (by omega), ?_⟩
    rw [List.dropLast_eq_take]
    refine k x' r e G0 H0 σ G _ (q6 G H nil l.dropLast x' _ F2 (.refl st.gr.s) (fun b o z => by cases z) (fun b o z => by cases z) e4 ?_ fun b o z => .inl (k2 b o z)) D (Po.mono (.refl _) q)
    rw [List.dropLast_eq_take, List.map_take, ll]
    exact k1
end
end PU

set_option Elab.async false
set_option maxRecDepth 100000
set_option linter.all false
/-! PU16: places within pairs and objects; pop(0), setting an item. -/
namespace PU
open PySem L2
open Enc
variable {p : Pm} {env : List Sl}
/-- the place of the first, the second of a pair -/
theorem lens_fst {α β γ : Type} [Enc α] [Enc β] [Enc γ] {te tk : TE} {i : Nat} {x : α} {g : Option (β × γ)} {put : β × γ → Option α} (L : Lens p env te i x g put) (hn : ∀ b : β, imm (enc b) = false) (hk : TK env tk 0) : Lens p env (tOp (rIxT p.K) te tk) i x (g.map (·.1)) (fun c => g.bind fun q => put (c, q.2)) where
  run := fun {σ G H F v c} h0 h1 h2 h3 e => by
    cases hg : g with
    | none => rw [hg] at e; cases e
    | some q =>
      rw [hg] at e
      cases e
      have ni : ∀ b : β × γ, immA [enc b.1, enc b.2] = false := fun b => by
        show (imm (enc b.1) && _) = false
        rw [hn b.1]; rfl
      obtain ⟨u, Fe, Fr, q1, q2, q3, rfl, q4⟩ := L.run h0 h1 h2 h3 hg
      rcases q2 with ⟨h0', _⟩ | ⟨_, a, xs, F', rfl, d1, d2, rfl⟩
      · rw [ni q] at h0'; cases h0'
      obtain ⟨w, Fj, Fo, z1, z2, z3, rfl, z4⟩ := DnA.split (j := 0) (d := enc q.1) d1 rfl
      have na := un_none.mp d2
      have eU : upd (un Fj Fo) a (.tup xs) = un Fj (upd Fo a (.tup xs)) := un_upd na.1
      have hH : H a = some (.tup xs) := h3 _ _ (same_un1 _ _ upd_same)
      rw [eU] at q3
      have dFr : Dj Fj Fr := fun b o h => q3 b o (by unfold un; rw [h])
      have djO : Dj Fj (upd Fo a (.tup xs)) := fun b o h => by
        by_cases cb : b = a
        · subst cb; rw [na.1] at h; cases h
        · rw [upd_ne cb]; exact z3 b o h
      have dOr : Dj (upd Fo a (.tup xs)) Fr := fun b o h => q3 b o (same_un2 djO _ _ h)
      have len2 : xs.length = 2 := by
        have := d1.length
        simpa using this.symm
      refine ⟨w, Fj, un (upd Fo a (.tup xs)) Fr, fun Q qq => q1 _ (hk _ _ _ h0 ⟨a, xs, 0, w, rfl, rfl, .of hH, ?_, qq⟩), z2, un_dj djO dFr, by rw [eU, un_assoc], fun G' c' x' Fj' sg e' k1 k2 => ?_⟩
      · unfold atI ixN
        rw [if_pos (Int.le_refl 0), if_pos (by omega)]
        exact z1
      · obtain ⟨k3, k4⟩ := dj_un k2
        obtain ⟨k5, k6⟩ := dj_upd k3
        have n1 := z4 G' (enc c') Fj' sg k1 k5
        have n2 : Dn p G' (enc (c', q.2)) (.ref a) (un Fj' (upd Fo a (.tup xs))) := .inr ⟨ni (c', q.2), a, xs, un Fj' Fo, rfl, n1, un_none.mpr ⟨k6, na.2⟩, (un_upd k6).symm⟩
        have n3 := q4 _ _ _ _ sg (show put (c', q.2) = some x' from e') n2 (fun b o h => by
          rcases un_some h with h | h
          · exact k4 b o h
          · exact dOr b o h)
        rw [un_assoc] at n3
        exact n3
/-- the place of a field of an object of two fields: the first, the second -/
theorem lens_f0 {α β γ : Type} [Enc α] [Enc β] [Enc γ] {te : TE} {i : Nat} {x : α} {g : Option β} {put : β → Option α} {get : β → Option γ} {rep : β → γ → Option β} {f0 : Str} (L : Lens p env te i x g put)
    (hb : ∀ b c, get b = some c → ∃ cl f1 d1, enc b = .ins cl [(f0, enc c), (f1, d1)] ∧ Cls p.K (p.cl cl) ∧ NoAttr p.K (p.cl cl) f0 ∧ ∀ c' b', rep b c' = some b' → enc b' = .ins cl [(f0, enc c'), (f1, d1)]) :
    Lens p env (tFld p.K te f0) i x (g.bind get) (fun c => g.bind fun b => (rep b c).bind put) where
  run := fun {σ G H F v c} h0 h1 h2 h3 e => by
    obtain ⟨b, e1, e2⟩ := bind_some e
    obtain ⟨cl, f1, dd, eb, c1, c2, c3⟩ := hb b c e2
    obtain ⟨u, Fe, Fr, q1, q2, q3, rfl, q4⟩ := L.run h0 h1 h2 h3 e1
    rw [eb] at q2
    obtain ⟨a, dx, xs, F', rfl, ⟨w, vs, Fj, Fo, rfl, z2, z5, z3, rfl⟩, d2, rfl⟩ := q2
    have na := un_none.mp d2
    have eU : upd (un Fj Fo) a (.ins (p.cl cl) dx ((f0, w) :: vs)) = un Fj (upd Fo a (.ins (p.cl cl) dx ((f0, w) :: vs))) := un_upd na.1
    have hH : H a = some (.ins (p.cl cl) dx ((f0, w) :: vs)) := h3 _ _ (same_un1 _ _ upd_same)
    rw [eU] at q3
    have dFr : Dj Fj Fr := fun b o h => q3 b o (by unfold un; rw [h])
    have djO : Dj Fj (upd Fo a (.ins (p.cl cl) dx ((f0, w) :: vs))) := fun b o h => by
      by_cases cb : b = a
      · subst cb; rw [na.1] at h; cases h
      · rw [upd_ne cb]; exact z3 b o h
    have dOr : Dj (upd Fo a (.ins (p.cl cl) dx ((f0, w) :: vs))) Fr := fun b o h => q3 b o (same_un2 djO _ _ h)
    refine ⟨w, Fj, un (upd Fo a (.ins (p.cl cl) dx ((f0, w) :: vs))) Fr, fun Q qq => q1 _ ⟨a, _, dx, _, w, rfl, hH, c1, c2, lk0, qq⟩, z2, un_dj djO dFr, by rw [eU, un_assoc], fun G' c' x' Fj' sg e' k1 k2 => ?_⟩
    rw [e1] at e'
    obtain ⟨b', s1, s2⟩ := bind_some (show (rep b c').bind put = some x' from e')
    obtain ⟨k3, k4⟩ := dj_un k2
    obtain ⟨k5, k6⟩ := dj_upd k3
    have n2 : Dn p G' (enc b') (.ref a) (un Fj' (upd Fo a (.ins (p.cl cl) dx ((f0, w) :: vs)))) := by
      rw [c3 c' b' s1]
      exact ⟨a, dx, _, un Fj' Fo, rfl, ⟨w, vs, Fj', Fo, rfl, k1, DnF.mono sg _ z5, k5, rfl⟩, un_none.mpr ⟨k6, na.2⟩, (un_upd k6).symm⟩
    have n3 := q4 _ _ _ _ sg s2 n2 (fun b o h => by
      rcases un_some h with h | h
      · exact k4 b o h
      · exact dOr b o h)
    rw [un_assoc] at n3
    exact n3
theorem lens_f1 {α β γ : Type} [Enc α] [Enc β] [Enc γ] {te : TE} {i : Nat} {x : α} {g : Option β} {put : β → Option α} {get : β → Option γ} {rep : β → γ → Option β} {f0 f1 : Str} (L : Lens p env te i x g put) (hne : (f1 == f0) = false)
    (hb : ∀ b c, get b = some c → ∃ cl d0, enc b = .ins cl [(f0, d0), (f1, enc c)] ∧ Cls p.K (p.cl cl) ∧ NoAttr p.K (p.cl cl) f1 ∧ ∀ c' b', rep b c' = some b' → enc b' = .ins cl [(f0, d0), (f1, enc c')]) :
    Lens p env (tFld p.K te f1) i x (g.bind get) (fun c => g.bind fun b => (rep b c).bind put) where
  run := fun {σ G H F v c} h0 h1 h2 h3 e => by
    obtain ⟨b, e1, e2⟩ := bind_some e
    obtain ⟨cl, dd, eb, c1, c2, c3⟩ := hb b c e2
    obtain ⟨u, Fe, Fr, q1, q2, q3, rfl, q4⟩ := L.run h0 h1 h2 h3 e1
    rw [eb] at q2
    obtain ⟨a, dx, xs, F', rfl, ⟨w0, vs, F0, F2, rfl, z0, ⟨w, vs2, Fj, Fn, rfl, z2, ⟨rfl, rfl⟩, _, rfl⟩, z3, rfl⟩, d2, rfl⟩ := q2
    rw [un_nil] at *
    have na := un_none.mp d2
    have sw : un F0 Fj = un Fj F0 := un_comm z3
    rw [sw] at q3 h3 ⊢
    have eU : upd (un Fj F0) a (.ins (p.cl cl) dx [(f0, w0), (f1, w)]) = un Fj (upd F0 a (.ins (p.cl cl) dx [(f0, w0), (f1, w)])) := un_upd na.2
    have hH : H a = some (.ins (p.cl cl) dx [(f0, w0), (f1, w)]) := h3 _ _ (same_un1 _ _ upd_same)
    rw [eU] at q3
    have dFr : Dj Fj Fr := fun b o h => q3 b o (by unfold un; rw [h])
    have djO : Dj Fj (upd F0 a (.ins (p.cl cl) dx [(f0, w0), (f1, w)])) := fun b o h => by
      by_cases cb : b = a
      · subst cb; rw [na.2] at h; cases h
      · rw [upd_ne cb]; exact z3.symm b o h
    have dOr : Dj (upd F0 a (.ins (p.cl cl) dx [(f0, w0), (f1, w)])) Fr := fun b o h => q3 b o (same_un2 djO _ _ h)
    refine ⟨w, Fj, un (upd F0 a (.ins (p.cl cl) dx [(f0, w0), (f1, w)])) Fr, fun Q qq => q1 _ ⟨a, _, dx, _, w, rfl, hH, c1, c2, (lk1 hne).trans lk0, qq⟩, z2, un_dj djO dFr, by rw [eU, un_assoc], fun G' c' x' Fj' sg e' k1 k2 => ?_⟩
    rw [e1] at e'
    obtain ⟨b', s1, s2⟩ := bind_some (show (rep b c').bind put = some x' from e')
    obtain ⟨k3, k4⟩ := dj_un k2
    obtain ⟨k5, k6⟩ := dj_upd k3
    have n2 : Dn p G' (enc b') (.ref a) (un Fj' (upd F0 a (.ins (p.cl cl) dx [(f0, w0), (f1, w)]))) := by
      rw [c3 c' b' s1]
      exact ⟨a, dx, _, un F0 Fj', rfl, ⟨w0, _, F0, Fj', rfl, Dn.mono sg _ z0, ⟨w, [], Fj', nil, rfl, k1, ⟨rfl, rfl⟩, fun a o _ => rfl, (un_nil _).symm⟩, k5.symm, rfl⟩, un_none.mpr ⟨na.1, k6⟩, by rw [un_comm k5.symm, un_upd k6]⟩
    have n3 := q4 _ _ _ _ sg s2 n2 (fun b o h => by
      rcases un_some h with h | h
      · exact k4 b o h
      · exact dOr b o h)
    rw [un_assoc] at n3
    exact n3
end PU

set_option Elab.async false
set_option maxRecDepth 100000
set_option linter.all false
/-! PU17: lists written out, new through and through; pop(0), an item set, at a place; reverse, pop by K. -/
namespace PU
open PySem L2
open Enc
section
variable {p : Pm} {env : List Sl} {ta te tr tk : TE} {w : D → Rs} [Dl w] {α β γ ρ : Type} [Enc α] [Enc β] [Enc γ] {tz : TS} {Po : Post ρ} {i : Nat} {x : α}
/-- items of one sort, new through and through -/
def EnT (p : Pm) (n : Nat) (ta : TA) (env : List Sl) (m : Option (List α)) : Prop := EnA p n ta env (m.bind fun l => some (l.map enc))
theorem ent_nil : EnT p 0 tNil env (some ([] : List α)) := ena_nil
theorem ent_cons {n : Nat} {tr : TA} {ma : Option α} {ms : Option (List α)} (h : EvN p ta env ma) (hr : EnT p n tr env ms) : EnT p (n + 1) (tCons ta tr) env (ma.bind fun x => ms.bind fun l => some (x :: l)) := fun z e => by
  obtain ⟨l, e1, e⟩ := bind_some e
  cases e
  obtain ⟨y, e2, e3⟩ := bind_some e1
  obtain ⟨l2, e4, e5⟩ := bind_some e3
  cases e5
  exact ena_cons h hr _ (by rw [e2, e4]; rfl)
theorem en_lstT {n : Nat} {ta : TA} {m : Option (List α)} (h : EnT p n ta env m) (hn : n ≤ 100000 := by decide) : EvN p (tLst ta) env m := fun z e => by
  refine en_lst (m := m.bind fun l => some (l.map enc)) (f := fun ds => m) h (fun ds xs e1 e2 => ?_) hn z ?_
  · rw [e2] at e1; cases e1; rfl
  · rw [e]; rfl
theorem k_pop0L {g : Option (List γ)} {put : List γ → Option α} {rest : α → Option ρ} (h : env[i]? = some (.rs (w (enc x)))) (L : Lens p env te i x g put) (k : ∀ x', Bk p tz (env.set i (.rs (w (enc x')))) (rest x') Po) :
    Bk p (tSeq (tDrop (tBM p.K "list" rPopAt te (tCons (tC (.int 0)) tNil))) tz) env (g.bind fun l => if l = [] then none else (put (l.drop 1)).bind rest) Po := fun r e G0 H0 σ G H st D q => by
  obtain ⟨l, e1, f1⟩ := bind_some e
  split at f1
  · cases f1
  · rename_i hne
    obtain ⟨x', e4, f2⟩ := bind_some f1
    obtain ⟨a, xs, F', q1, q2, q3, q4, q5, q6⟩ := st.lensW h L e1
    have ll := DnA.length q3
    rw [List.length_map] at ll
    cases l with
    | nil => exact absurd rfl hne
    | cons y l =>
      obtain ⟨F2, k1, k2⟩ := DnA.drop1 (show DnA p G (enc y :: l.map enc) xs F' from q3)
      have lp : 0 < xs.length := by simp at ll; omega
      refine q1 _ ⟨.inl ⟨rfl, _, .of q2⟩, a, xs, 0, 0, xs[0], rfl, rfl, q2, by decide, by decide, ?_, List.getElem?_eq_getElem lp, ?_⟩
      · exact (ixN_seq (n := xs.length) (i := 0) (j := 0) (by unfold ixN; rw [if_pos (Int.le_refl 0), if_pos (by omega)]; rfl)).1
      · have es : xs.eraseIdx 0 = xs.drop 1 := by cases xs <;> rfl
        rw [es]
        exact k x' r f2 G0 H0 σ G _ (q6 G H nil l x' _ F2 (.refl st.gr.s) (fun b o z => by cases z) (fun b o z => by cases z) e4 k1 fun b o z => .inl (k2 b o z)) D (Po.mono (.refl _) q)
theorem k_setL {k0 : Int} {g : Option (List γ)} {put : List γ → Option α} {me : Option γ} {rest : α → Option ρ} (h : env[i]? = some (.rs (w (enc x)))) (he : Ev p false ta env me) [Scal γ] (L : Lens p env te i x g put) (hk : TK env tk k0) (k : ∀ x', Bk p tz (env.set i (.rs (w (enc x')))) (rest x') Po) :
    Bk p (tSeq (tAsg ta (gSub te tk rSetL)) tz) env (me.bind fun y => g.bind fun l => (seti? l k0 y).bind fun l' => (put l').bind rest) Po := fun r e G0 H0 σ G H st Dd q => by
  obtain ⟨y, e2, f1⟩ := bind_some e
  obtain ⟨l, e1, f2⟩ := bind_some f1
  obtain ⟨l', e3, f3⟩ := bind_some f2
  obtain ⟨x', e4, f4⟩ := bind_some f3
  refine he y e2 G0 H0 σ G H st _ fun v G1 H1 g1 r1 => ?_
  have st1 := st.step g1
  obtain ⟨a, xs, F', q1, q2, q3, q4, q5, q6⟩ := st1.lensW h L e1
  unfold seti? at e3
  cases hj : ixN l.length k0 with
  | none => rw [hj] at e3; cases e3
  | some j =>
    rw [hj] at e3
    cases e3
    have ll := DnA.length q3
    rw [List.length_map] at ll
    have hlt := (ixN_seq hj).2.1
    obtain ⟨w, Fj, Fo, z1, z2, z3, rfl, z4⟩ := DnA.split (j := j) (d := enc l[j]) q3 (by rw [List.getElem?_map, List.getElem?_eq_getElem hlt]; rfl)
    have nw : ∃ F2, DnA p G1 ((l.set j y).map enc) (xs.set j v) F2 ∧ ∀ b o, F2 b = some o → un Fj Fo b = some o := by
      have : ∀ (ds : List D) (xs : List V) (F : Hp) (j : Nat), DnA p G1 ds xs F → ∃ F2, DnA p G1 (ds.set j (enc y)) (xs.set j v) F2 ∧ ∀ b o, F2 b = some o → F b = some o := by
        intro ds
        induction ds with
        | nil =>
          intro xs F j hh
          obtain ⟨rfl, rfl⟩ := hh
          exact ⟨nil, ⟨rfl, rfl⟩, fun b o z => z⟩
        | cons d ds ih =>
          intro xs F j hh
          obtain ⟨v0, vs, F1, F2, rfl, h1, h2, h3, rfl⟩ := hh
          cases j with
          | zero => exact ⟨F2, ⟨v, vs, nil, F2, rfl, Scal.dn r1, h2, fun a o z => (by cases z), (nil_un F2).symm⟩, fun b o z => same_un2 h3 _ _ z⟩
          | succ j =>
            obtain ⟨F3, k1, k2⟩ := ih vs F2 j h2
            refine ⟨un F1 F3, ⟨v0, vs.set j v, F1, F3, rfl, h1, k1, fun a o z => ?_, rfl⟩, fun b o z => ?_⟩
            · cases qq : F3 a with
              | none => rfl
              | some u =>
                have h5 := k2 a u qq
                rw [h3 a o z] at h5; cases h5
            · rcases un_some z with z | z
              · exact same_un1 _ _ z
              · exact same_un2 h3 _ _ (k2 b o z)
      rw [List.map_set]
      exact this _ _ _ j q3
    obtain ⟨F2, n1, n2⟩ := nw
    refine q1 _ (hk _ _ _ st1.ints ⟨a, xs, k0, j, rfl, rfl, q2, by rw [← ll]; exact hj, ?_⟩)
    exact k x' r f4 G0 H0 σ G1 _ (q6 G1 H1 nil _ x' _ F2 (.refl st1.gr.s) (fun b o z => by cases z) (fun b o z => by cases z) e4 n1 fun b o z => .inl (n2 b o z)) Dd (Po.mono g1.g q)
end
section
variable {X : Cx} {e : Expr} {to : TE}
theorem xe_reverse (K) {apos cpos : Pos} {o : Expr} (ho : PE X o to) (hbase : attributeBase o "reverse" X.env (eval o X.env) = eval o X.env := by rfl) (hline : (apos.endLine == cpos.line) = true := by rfl) (hK : X.K = K := by rfl) :
    PE X (.Call (.Attribute o "reverse" apos) [] [] cpos) (tBM0 K "list" rReverse to) := by
  subst hK
  exact pe_bm0 PySem.F.plainAttrs_list PySem.F.slot_list_reverse PySem.F.type_list_reverse mt_reverse ho hbase hline
theorem xe_pop0 (K) {apos cpos : Pos} {o : Expr} (ho : PE X o to) (hbase : attributeBase o "pop" X.env (eval o X.env) = eval o X.env := by rfl) (hline : (apos.endLine == cpos.line) = true := by rfl) (hK : X.K = K := by rfl) :
    PE X (.Call (.Attribute o "pop" apos) [] [] cpos) (tBM0 K "list" rPop to) := by
  subst hK
  exact pe_bm0 PySem.F.plainAttrs_list PySem.F.slot_list_pop PySem.F.type_list_pop mt_pop ho hbase hline
end
end PU

set_option Elab.async false
set_option maxRecDepth 100000
set_option linter.all false
/-! PU18: tuples of three and four; places of the fields of an answer. -/
namespace PU
open PySem L2
open Enc
structure Tri (α β γ : Type) where
  a : α
  b : β
  c : γ
instance {α β γ : Type} [Enc α] [Enc β] [Enc γ] : Enc (Tri α β γ) := ⟨fun x => .tup [enc x.a, enc x.b, enc x.c]⟩
structure Quad (α β γ δ : Type) where
  a : α
  b : β
  c : γ
  d : δ
instance {α β γ δ : Type} [Enc α] [Enc β] [Enc γ] [Enc δ] : Enc (Quad α β γ δ) := ⟨fun x => .tup [enc x.a, enc x.b, enc x.c, enc x.d]⟩
section
variable {p : Pm} {env : List Sl} {ta tb tc td : TE} {α β γ δ : Type} [Enc α] [Enc β] [Enc γ] [Enc δ]
theorem ev_tup3 {ma : Option α} {mb : Option β} {mc : Option γ} (ha : Ev p false ta env ma) (hb : Ev p false tb env mb) (hc : Ev p false tc env mc) : Ev p false (tTup (tCons ta (tCons tb (tCons tc tNil)))) env (ma.bind fun x => mb.bind fun y => mc.bind fun z => some (Tri.mk x y z)) := fun z e G0 H0 σ G H s Q k => by
  obtain ⟨x, e1, f1⟩ := bind_some e
  obtain ⟨y, e2, f2⟩ := bind_some f1
  obtain ⟨y3, e3, f3⟩ := bind_some f2
  cases f3
  refine ha x e1 G0 H0 σ G H s _ fun v G1 H1 g1 r1 => hb y e2 G0 H0 σ G1 H1 (s.step g1) _ fun w G2 H2 g2 r2 => hc y3 e3 G0 H0 σ G2 H2 ((s.step g1).step g2) _ fun u G3 H3 g3 r3 => ⟨by show 3 ≤ sizeLine; decide, fun l hl => ?_⟩
  have n2 := same_new (o := .tup [v, w, u]) (g3.s.free hl)
  exact k _ _ _ (((g1.trans g2).trans g3).trans (.new g3.s hl)) ⟨l, [v, w, u], rfl, upd_same, .cons (Rp.mono ((g2.g.trans g3.g).trans n2) _ r1) (.cons (Rp.mono (g3.g.trans n2) _ r2) (.cons (Rp.mono n2 _ r3) .nil))⟩
theorem ev_tup4 {ma : Option α} {mb : Option β} {mc : Option γ} {md : Option δ} (ha : Ev p false ta env ma) (hb : Ev p false tb env mb) (hc : Ev p false tc env mc) (hd : Ev p false td env md) : Ev p false (tTup (tCons ta (tCons tb (tCons tc (tCons td tNil))))) env (ma.bind fun x => mb.bind fun y => mc.bind fun z => md.bind fun w => some (Quad.mk x y z w)) := fun z e G0 H0 σ G H s Q k => by
  obtain ⟨x, e1, f1⟩ := bind_some e
  obtain ⟨y, e2, f2⟩ := bind_some f1
  obtain ⟨y3, e3, f3⟩ := bind_some f2
  obtain ⟨y4, e4, f4⟩ := bind_some f3
  cases f4
  refine ha x e1 G0 H0 σ G H s _ fun v G1 H1 g1 r1 => hb y e2 G0 H0 σ G1 H1 (s.step g1) _ fun w G2 H2 g2 r2 => hc y3 e3 G0 H0 σ G2 H2 ((s.step g1).step g2) _ fun u G3 H3 g3 r3 => hd y4 e4 G0 H0 σ G3 H3 (((s.step g1).step g2).step g3) _ fun t G4 H4 g4 r4 => ⟨by show 4 ≤ sizeLine; decide, fun l hl => ?_⟩
  have n2 := same_new (o := .tup [v, w, u, t]) (g4.s.free hl)
  exact k _ _ _ ((((g1.trans g2).trans g3).trans g4).trans (.new g4.s hl)) ⟨l, [v, w, u, t], rfl, upd_same, .cons (Rp.mono (((g2.g.trans g3.g).trans g4.g).trans n2) _ r1) (.cons (Rp.mono ((g3.g.trans g4.g).trans n2) _ r2) (.cons (Rp.mono (g4.g.trans n2) _ r3) (.cons (Rp.mono n2 _ r4) .nil)))⟩
end
/-! ### the fields of an answer as places -/
def Ans.setStay? : Ans → List Int → Option Ans
  | .least _ r, s => some (.least s r)
  | .round _ r, s => some (.round s r)
  | _, _ => none
def Ans.setRows? : Ans → List (List Int × Int) → Option Ans
  | .least s _, r => some (.least s r)
  | _, _ => none
def Ans.setPapers? : Ans → List (List (List Int × Int)) → Option Ans
  | .round s _, r => some (.round s r)
  | _, _ => none
section
variable {p : Pm} {env : List Sl} {te : TE} {i : Nat} {α : Type} [Enc α] {x : α} {g : Option Ans} {put : Ans → Option α}
theorem lens_stayL (L : Lens p env te i x g put) (hc : Cls p.K (p.cl 0)) (hn : NoAttr p.K (p.cl 0) "stay") : Lens p env (tFld p.K te "stay") i x (g.bind Ans.stayL?) (fun c => g.bind fun b => (Ans.setStay? b c).bind put) :=
  lens_f0 L fun b c e => by
    cases b <;> cases e
    exact ⟨0, "rows", _, rfl, hc, hn, fun c' b' e' => by cases e'; rfl⟩
theorem lens_stay (L : Lens p env te i x g put) (hc : Cls p.K (p.cl 0)) (hn : NoAttr p.K (p.cl 0) "stay") (hc5 : Cls p.K (p.cl 5)) (hn5 : NoAttr p.K (p.cl 5) "stay") : Lens p env (tFld p.K te "stay") i x (g.bind Ans.stay?) (fun c => g.bind fun b => (Ans.setStay? b c).bind put) :=
  lens_f0 L fun b c e => by
    cases b <;> cases e
    · exact ⟨0, "rows", _, rfl, hc, hn, fun c' b' e' => by cases e'; rfl⟩
    · exact ⟨5, "papers", _, rfl, hc5, hn5, fun c' b' e' => by cases e'; rfl⟩
theorem lens_rows (L : Lens p env te i x g put) (hc : Cls p.K (p.cl 0)) (hn : NoAttr p.K (p.cl 0) "rows") : Lens p env (tFld p.K te "rows") i x (g.bind Ans.rows?) (fun c => g.bind fun b => (Ans.setRows? b c).bind put) :=
  lens_f1 (f0 := "stay") L (by decide +kernel) fun b c e => by
    cases b <;> cases e
    exact ⟨0, _, rfl, hc, hn, fun c' b' e' => by cases e'; rfl⟩
theorem lens_papers (L : Lens p env te i x g put) (hc : Cls p.K (p.cl 5)) (hn : NoAttr p.K (p.cl 5) "papers") : Lens p env (tFld p.K te "papers") i x (g.bind Ans.papers?) (fun c => g.bind fun b => (Ans.setPapers? b c).bind put) :=
  lens_f1 (f0 := "stay") L (by decide +kernel) fun b c e => by
    cases b <;> cases e
    exact ⟨5, _, rfl, hc, hn, fun c' b' e' => by cases e'; rfl⟩
end
end PU

set_option Elab.async false
set_option maxRecDepth 100000
set_option linter.all false
/-! PU19: a list of four unlike parts. -/
namespace PU
open PySem L2
open Enc
structure R4 (α β γ δ : Type) where
  a : α
  b : β
  c : γ
  d : δ
deriving DecidableEq
instance {α β γ δ : Type} [Enc α] [Enc β] [Enc γ] [Enc δ] : Enc (R4 α β γ δ) := ⟨fun x => .lst [enc x.a, enc x.b, enc x.c, enc x.d]⟩
section
variable {p : Pm} {env : List Sl} {ta tb tc td te tk : TE} {α β γ δ ε : Type} [Enc α] [Enc β] [Enc γ] [Enc δ] [Enc ε]
theorem en_r4 {ma : Option α} {mb : Option β} {mc : Option γ} {md : Option δ} (ha : EvN p ta env ma) (hb : EvN p tb env mb) (hc : EvN p tc env mc) (hd : EvN p td env md) : EvN p (tLst (tCons ta (tCons tb (tCons tc (tCons td tNil))))) env (ma.bind fun x => mb.bind fun y => mc.bind fun z => md.bind fun w => some (R4.mk x y z w)) := fun z e G0 H0 σ G H s Q k => by
  obtain ⟨x, e1, f1⟩ := bind_some e
  obtain ⟨y, e2, f2⟩ := bind_some f1
  obtain ⟨y3, e3, f3⟩ := bind_some f2
  obtain ⟨y4, e4, f4⟩ := bind_some f3
  cases f4
  refine ena_cons ha (ena_cons hb (ena_cons hc (ena_cons hd ena_nil))) [enc x, enc y, enc y3, enc y4] (by rw [e1, e2, e3, e4]; rfl) G0 H0 σ G H s _ fun vs G1 H1 N g1 s1 n1 r1 hl => ⟨by rw [← r1.length, hl]; show 4 ≤ sizeLine; decide, fun q hq => ?_⟩
  obtain ⟨a1, a2, a3, a4⟩ := lay_new (o := .lst vs) g1 s1 n1 hq
  exact k (.ref q) G1 _ (upd N q (.lst vs)) a1 a2 a3 ⟨q, vs, N, rfl, r1, a4, rfl⟩
theorem ev_r4 {ma : Option α} {mb : Option β} {mc : Option γ} {md : Option δ} (ha : Ev p false ta env ma) (hb : Ev p false tb env mb) (hc : Ev p false tc env mc) (hd : Ev p false td env md) : Ev p false (tLst (tCons ta (tCons tb (tCons tc (tCons td tNil))))) env (ma.bind fun x => mb.bind fun y => mc.bind fun z => md.bind fun w => some (R4.mk x y z w)) := fun z e G0 H0 σ G H s Q k => by
  obtain ⟨x, e1, f1⟩ := bind_some e
  obtain ⟨y, e2, f2⟩ := bind_some f1
  obtain ⟨y3, e3, f3⟩ := bind_some f2
  obtain ⟨y4, e4, f4⟩ := bind_some f3
  cases f4
  refine ha x e1 G0 H0 σ G H s _ fun v G1 H1 g1 r1 => hb y e2 G0 H0 σ G1 H1 (s.step g1) _ fun w G2 H2 g2 r2 => hc y3 e3 G0 H0 σ G2 H2 ((s.step g1).step g2) _ fun u G3 H3 g3 r3 => hd y4 e4 G0 H0 σ G3 H3 (((s.step g1).step g2).step g3) _ fun t G4 H4 g4 r4 => ⟨by show 4 ≤ sizeLine; decide, fun l hl => ?_⟩
  have n2 := same_new (o := .lst [v, w, u, t]) (g4.s.free hl)
  exact k _ _ _ ((((g1.trans g2).trans g3).trans g4).trans (.new g4.s hl)) ⟨l, [v, w, u, t], rfl, upd_same, .cons (Rp.mono (((g2.g.trans g3.g).trans g4.g).trans n2) _ r1) (.cons (Rp.mono ((g3.g.trans g4.g).trans n2) _ r2) (.cons (Rp.mono (g4.g.trans n2) _ r3) (.cons (Rp.mono n2 _ r4) .nil)))⟩
/-- x[k], the list's parts unlike -/
theorem ev_at {k : Int} {j : Nat} {get : β → γ} {mb : Option β} (h : Ev p false tb env mb) (hk : TK env tk k) (hb : ∀ b : β, ∃ ds, enc b = .lst ds ∧ ixN ds.length k = some j ∧ ds[j]? = some (enc (get b))) : Ev p false (tOp (rIxL p.K) tb tk) env (mb.bind fun b => some (get b)) := fun z e G0 H0 σ G H s Q kk => by
  obtain ⟨b, e1, f1⟩ := bind_some e
  cases f1
  obtain ⟨ds, eb, h1, h2⟩ := hb b
  refine h b e1 G0 H0 σ G H s _ fun v G1 H1 g1 r1 => hk _ _ _ (s.step g1).ints ?_
  rw [eb] at r1
  obtain ⟨a, vs, rfl, h3, h4⟩ := r1
  obtain ⟨w, h5, h6⟩ := h4.get h2
  refine ⟨a, vs, k, w, rfl, rfl, .of (g1.s _ _ h3), ?_, kk w G1 H1 g1 h6⟩
  unfold atI
  rw [← h4.length, h1]
  exact h5
theorem lens_at {i : Nat} {x : α} {k : Int} {j : Nat} {g : Option β} {put : β → Option α} {get : β → γ} {rep : β → γ → β} (L : Lens p env te i x g put) (hk : TK env tk k)
    (hb : ∀ b : β, ∃ ds, enc b = .lst ds ∧ ixN ds.length k = some j ∧ ds[j]? = some (enc (get b)) ∧ ∀ c, enc (rep b c) = .lst (ds.set j (enc c))) : Lens p env (tOp (rIxL p.K) te tk) i x (g.map get) (fun c => g.bind fun b => put (rep b c)) where
  run := fun {σ G H F v c} h0 h1 h2 h3 e => by
    cases hg : g with
    | none => rw [hg] at e; cases e
    | some b =>
      rw [hg] at e
      cases e
      obtain ⟨ds, eb, hj, hd, hr⟩ := hb b
      obtain ⟨u, Fe, Fr, q1, q2, q3, rfl, q4⟩ := L.run h0 h1 h2 h3 hg
      rw [eb] at q2
      obtain ⟨a, xs, F', rfl, d1, d2, rfl⟩ := q2
      have hl := DnA.length d1
      obtain ⟨w, Fj, Fo, z1, z2, z3, rfl, z4⟩ := DnA.split (j := j) d1 hd
      have na := un_none.mp d2
      have eU : upd (un Fj Fo) a (.lst xs) = un Fj (upd Fo a (.lst xs)) := un_upd na.1
      have hH : H a = some (.lst xs) := h3 _ _ (same_un1 _ _ upd_same)
      rw [eU] at q3
      have dFr : Dj Fj Fr := fun b o h => q3 b o (by unfold un; rw [h])
      have djO : Dj Fj (upd Fo a (.lst xs)) := fun b o h => by
        by_cases cb : b = a
        · subst cb; rw [na.1] at h; cases h
        · rw [upd_ne cb]; exact z3 b o h
      have dOr : Dj (upd Fo a (.lst xs)) Fr := fun b o h => q3 b o (same_un2 djO _ _ h)
      refine ⟨w, Fj, un (upd Fo a (.lst xs)) Fr, fun Q qq => q1 _ (hk _ _ _ h0 ⟨a, xs, k, w, rfl, rfl, .of hH, ?_, qq⟩), z2, un_dj djO dFr, by rw [eU, un_assoc], fun G' c' x' Fj' sg e' k1 k2 => ?_⟩
      · unfold atI
        rw [← hl, hj]
        exact z1
      · obtain ⟨k3, k4⟩ := dj_un k2
        obtain ⟨k5, k6⟩ := dj_upd k3
        have n1 := z4 G' (enc c') Fj' sg k1 k5
        have n2 : Dn p G' (enc (rep b c')) (.ref a) (un Fj' (upd Fo a (.lst xs))) := by
          rw [hr c']
          exact ⟨a, xs, un Fj' Fo, rfl, n1, un_none.mpr ⟨k6, na.2⟩, (un_upd k6).symm⟩
        have n3 := q4 _ _ _ _ sg (show put (rep b c') = some x' from e') n2 (fun b o h => by
          rcases un_some h with h | h
          · exact k4 b o h
          · exact dOr b o h)
        rw [un_assoc] at n3
        exact n3
end
end PU

set_option Elab.async false
set_option maxRecDepth 100000
set_option linter.all false
/-! PU20: defs without arguments; equality of lists of unlike parts, of what may be None. -/
namespace PU
open PySem L2
open Enc
theorem pe_cal0 {X : Cx} {x : Str} {k : Nat} {ps : List Str} {sp : Sp} {p pos : Pos} (c : Cal X.prog X.w X.K X.mg X.base x k ps sp) (hr : Room k X.A) (hg : Gl X x) (hdb : (x == ("__debug__" : Str)) = false := by decide) :
    PE X (.Call (.Name x p) [] [] pos) (tCall sp [] E0 tNil) := by
  obtain ⟨f, fd, F, hm, hk, hb⟩ := c.ex
  exact pe_call0 F hr hg hm hk hb .nil pass0 hdb
section
variable {p : Pm} {env : List Sl} {ta tb tc td te tk : TE} {α β γ δ : Type} [Enc α] [Enc β] [Enc γ] [Enc δ]
def sp0 (p : Pm) (nw : Bool) (f : Option γ) : Sp := spF p nw (fun _ : Unit => []) fun _ => f
theorem ev_call0 {nw : Bool} {f : Option γ} {E : XK} : Ev p nw (tCall (sp0 p nw f) [] E tNil) env f := fun z e G0 H0 σ G H s Q k =>
  ⟨G, (), z, s.gr.s, rfl, e, fun u G2 H2 g2 r2 => k u G2 H2 g2 r2⟩
def spD0 (p : Pm) (f : Option γ) : Sp := spD p (fun _ : Unit => []) fun _ => f
theorem en_call0 {f : Option γ} {E : XK} : EvN p (tCall (spD0 p f) [] E tNil) env f := fun z e G0 H0 σ G H s Q k =>
  ⟨G, (), z, s.gr.s, rfl, e, fun v G2 H2 N g2 sN nN r2 => k v G2 H2 N g2 sN nN r2⟩
instance [DecidableEq α] [EqOk α] [DecidableEq β] [EqOk β] [DecidableEq γ] [EqOk γ] [DecidableEq δ] [EqOk δ] : EqOk (R4 α β γ δ) where
  pd := fun x => .list [EqOk.pd x.a, EqOk.pd x.b, EqOk.pd x.c, EqOk.pd x.d]
  dp := fun x v h => by
    obtain ⟨a, vs, rfl, h1, v1, vs1, rfl, h2, v2, vs2, rfl, h3, v3, vs3, rfl, h4, v4, vs4, rfl, h5, rfl⟩ := h
    exact .lst (.of h1) (.cons (EqOk.dp x.a v1 h2) (.cons (EqOk.dp x.b v2 h3) (.cons (EqOk.dp x.c v3 h4) (.cons (EqOk.dp x.d v4 h5) .nil))))
  lay := fun x => by simp only [PyData.canLay0, PyData.canLayAll0, EqOk.lay, Bool.and_self]
  dep := max (max (EqOk.dep α) (EqOk.dep β)) (max (EqOk.dep γ) (EqOk.dep δ)) + 1
  hdep := fun x => by
    simp only [PyData.depth, PyData.depthAll]
    have h1 := EqOk.hdep x.a
    have h2 := EqOk.hdep x.b
    have h3 := EqOk.hdep x.c
    have h4 := EqOk.hdep x.d
    omega
  eqv := fun x y => by
    simp only [PyData.eqv, PyData.eqvAll, EqOk.eqv, Bool.and_true]
    obtain ⟨a, b, c, d⟩ := x
    obtain ⟨a', b', c', d'⟩ := y
    by_cases h1 : a = a' <;> by_cases h2 : b = b' <;> by_cases h3 : c = c' <;> by_cases h4 : d = d' <;> simp [h1, h2, h3, h4]
/-! ### a list of two unlike parts -/
structure Du (α β : Type) where
  a : α
  b : β
deriving DecidableEq
instance : Enc (Du α β) := ⟨fun x => .lst [enc x.a, enc x.b]⟩
instance [DecidableEq α] [EqOk α] [DecidableEq β] [EqOk β] : EqOk (Du α β) where
  pd := fun x => .list [EqOk.pd x.a, EqOk.pd x.b]
  dp := fun x v h => by
    obtain ⟨a, vs, rfl, h1, v1, vs1, rfl, h2, v2, vs2, rfl, h3, rfl⟩ := h
    exact .lst (.of h1) (.cons (EqOk.dp x.a v1 h2) (.cons (EqOk.dp x.b v2 h3) .nil))
  lay := fun x => by simp only [PyData.canLay0, PyData.canLayAll0, EqOk.lay, Bool.and_self]
  dep := max (EqOk.dep α) (EqOk.dep β) + 1
  hdep := fun x => by
    simp only [PyData.depth, PyData.depthAll]
    have h1 := EqOk.hdep x.a
    have h2 := EqOk.hdep x.b
    omega
  eqv := fun x y => by
    simp only [PyData.eqv, PyData.eqvAll, EqOk.eqv, Bool.and_true]
    obtain ⟨a, b⟩ := x
    obtain ⟨a', b'⟩ := y
    by_cases h1 : a = a' <;> by_cases h2 : b = b' <;> simp [h1, h2]
theorem en_du {ma : Option α} {mb : Option β} (ha : EvN p ta env ma) (hb : EvN p tb env mb) : EvN p (tLst (tCons ta (tCons tb tNil))) env (ma.bind fun x => mb.bind fun y => some (Du.mk x y)) := fun z e G0 H0 σ G H s Q k => by
  obtain ⟨x, e1, f1⟩ := bind_some e
  obtain ⟨y, e2, f2⟩ := bind_some f1
  cases f2
  refine ena_cons ha (ena_cons hb ena_nil) [enc x, enc y] (by rw [e1, e2]; rfl) G0 H0 σ G H s _ fun vs G1 H1 N g1 s1 n1 r1 hl => ⟨by rw [← r1.length, hl]; show 2 ≤ sizeLine; decide, fun q hq => ?_⟩
  obtain ⟨a1, a2, a3, a4⟩ := lay_new (o := .lst vs) g1 s1 n1 hq
  exact k (.ref q) G1 _ (upd N q (.lst vs)) a1 a2 a3 ⟨q, vs, N, rfl, r1, a4, rfl⟩
theorem ev_du {ma : Option α} {mb : Option β} (ha : Ev p false ta env ma) (hb : Ev p false tb env mb) : Ev p false (tLst (tCons ta (tCons tb tNil))) env (ma.bind fun x => mb.bind fun y => some (Du.mk x y)) := fun z e G0 H0 σ G H s Q k => by
  obtain ⟨x, e1, f1⟩ := bind_some e
  obtain ⟨y, e2, f2⟩ := bind_some f1
  cases f2
  refine ha x e1 G0 H0 σ G H s _ fun v G1 H1 g1 r1 => hb y e2 G0 H0 σ G1 H1 (s.step g1) _ fun w G2 H2 g2 r2 => ⟨by show 2 ≤ sizeLine; decide, fun l hl => ?_⟩
  have n2 := same_new (o := .lst [v, w]) (g2.s.free hl)
  exact k _ _ _ ((g1.trans g2).trans (.new g2.s hl)) ⟨l, [v, w], rfl, upd_same, .cons (Rp.mono (g2.g.trans n2) _ r1) (.cons (Rp.mono n2 _ r2) .nil)⟩
/-! ### what may be None -/
class NnE (α : Type) [Enc α] [DecidableEq α] [EqOk α] : Prop where
  l : ∀ x : α, PyData.eqv (EqOk.pd x) .none = false
  r : ∀ x : α, PyData.eqv .none (EqOk.pd x) = false
instance [DecidableEq α] [EqOk α] : NnE (List α) := ⟨fun x => by simp only [EqOk.pd, PyData.eqv], fun x => by simp only [EqOk.pd, PyData.eqv]⟩
instance [DecidableEq α] [EqOk α] [DecidableEq β] [EqOk β] : NnE (α × β) := ⟨fun x => by simp only [EqOk.pd, PyData.eqv], fun x => by simp only [EqOk.pd, PyData.eqv]⟩
instance [DecidableEq α] [EqOk α] [NnE α] : EqOk (Option α) where
  pd := fun o => match o with
    | none => .none
    | some x => EqOk.pd x
  dp := fun x v h => by
    cases x with
    | none => rw [show v = .non from h]; exact .non
    | some i => exact EqOk.dp i v h
  lay := fun x => by
    cases x with
    | none => simp only [PyData.canLay0]
    | some i => exact EqOk.lay i
  dep := EqOk.dep α
  hdep := fun x => by
    cases x with
    | none => simp only [PyData.depth]; exact Nat.zero_le _
    | some i => exact EqOk.hdep i
  eqv := fun x y => by
    cases x with
    | none =>
      cases y with
      | none => simp only [PyData.eqv]; simp
      | some j => rw [decide_eq_false (by simp)]; exact NnE.r j
    | some i =>
      cases y with
      | none => rw [decide_eq_false (by simp)]; exact NnE.l i
      | some j =>
        show PyData.eqv (EqOk.pd i) (EqOk.pd j) = _
        rw [EqOk.eqv]
        by_cases h : i = j <;> simp [h]
end
end PU

set_option Elab.async false
set_option maxRecDepth 100000
set_option linter.all false
/-! PU21: walks over a list of one's own; remove, clear, extend; own lists returned as new through and through. -/
namespace PU
open PySem L2
open Enc
section
variable {p : Pm} {env env' : List Sl} {σ : St} {G0 H0 G H : Hp}
theorem Sts.conv {i : Nat} {r r' : Rs} (s : Sts p G0 H0 env σ G H) (e : env[i]? = some (.rs r)) (c : ∀ v F, σ[i]? = some (some v) → r.R p G v F → r'.R p G v F) : Sts p G0 H0 (env.set i (.rs r')) σ G H := by
  obtain ⟨Fs, f⟩ := s.rs
  refine ⟨s.gr, by simp [s.len], fun j d q => ?_, Fs, fun j r1 q => ?_, fun j k r1 r2 a o n q1 q2 => ?_⟩
  · rcases set_get q with ⟨_, q, _⟩ | ⟨hj, q⟩
    · cases q
    · exact s.va j d q
  · rcases set_get q with ⟨rfl, q, _⟩ | ⟨hj, q⟩
    · cases q
      obtain ⟨v, a1, a2, a3, a4⟩ := f.wh i _ e
      exact ⟨v, a1, c v _ a1 a2, a3, a4⟩
    · exact f.wh j r1 q
  · have w1 : ∃ r0, env[j]? = some (.rs r0) := by
      rcases set_get q1 with ⟨rfl, _, _⟩ | ⟨_, q⟩
      · exact ⟨_, e⟩
      · exact ⟨_, q⟩
    have w2 : ∃ r0, env[k]? = some (.rs r0) := by
      rcases set_get q2 with ⟨rfl, _, _⟩ | ⟨_, q⟩
      · exact ⟨_, e⟩
      · exact ⟨_, q⟩
    obtain ⟨r3, w1⟩ := w1
    obtain ⟨r4, w2⟩ := w2
    exact f.ap j k r3 r4 a o n w1 w2
theorem Sts.unpin {i : Nat} {l : Addr} {d : D} (s : Sts p G0 H0 env σ G H) (e : env[i]? = some (.rs (dnAt l d))) : Sts p G0 H0 (env.set i (.rs (dn d))) σ G H := s.conv e fun _ _ _ h => h.2
theorem Sts.pin {i : Nat} {l : Addr} {d : D} (s : Sts p G0 H0 env σ G H) (e : env[i]? = some (.rs (dn d))) (hv : σ[i]? = some (some (.ref l))) : Sts p G0 H0 (env.set i (.rs (dnAt l d))) σ G H := s.conv e fun v _ q h => by
  rw [hv] at q; cases q
  exact ⟨rfl, h⟩
/-- where the pinned list stands -/
theorem Sts.pinned {α : Type} [Enc α] [Imm α] {i : Nat} {l : Addr} {xs : List α} (s : Sts p G0 H0 env σ G H) (e : env[i]? = some (.rs (dnAt l (.lst (xs.map enc))))) : ∃ vs, H l = some (.lst vs) ∧ RpA p G (xs.map enc) vs := by
  obtain ⟨Fs, f⟩ := s.rs
  obtain ⟨v, a1, ⟨rfl, a, vs, F', e1, h1, h2, h3⟩, a3, a4⟩ := f.wh i _ e
  cases e1
  obtain ⟨r, _⟩ := DnA.imm_rp _ (immA_map xs) h1
  exact ⟨vs, a3 _ _ (by rw [h3]; exact upd_same), r⟩
end
section
variable {p : Pm} {env env' : List Sl} {ta te : TE} {t tz : TS} {α β γ ρ s : Type} [Enc α] [Enc β] [Enc γ] {Po : Post ρ}
theorem k_forP [Imm α] {i : Nat} {g : TG} {js : List Nat} {d : D} {mx : Option (List α)} {f : s → α → Option s} {envS : Addr → s → List Sl} {envB : Addr → s → α → List Sl} {envN : s → List Sl} {x0 : s}
    (h : env[i]? = some (.rs (dn d))) (hd : ∀ xs, mx = some xs → d = .lst (xs.map enc)) (hi : ∀ l x, (envS l x)[i]? = some (.rs (dnAt l d))) (h0 : ∀ l, leE (env.set i (.rs (dnAt l d))) (envS l x0)) (hn : ∀ l x, leE ((envS l x).set i (.rs (dn d))) (envN x))
    (hg : ∀ l x a, Tg p g (enc a) (envS l x) (envB l x a) js) (hb : ∀ l x a, Bk p t (envB l x a) (f x a) (pN p (envS l))) : Bk p (tFor (iList p.K (tVar i)) g t) env (mx.bind fun xs => forS f x0 xs) (pN p envN) := fun r e G0 H0 σ G H st D q => by
  obtain ⟨xs, e1, e⟩ := bind_some e
  have ed := hd xs e1
  subst ed
  obtain ⟨Fs, ff⟩ := st.rs
  obtain ⟨v, a1, ⟨l, vs, F', rfl, h1, h2, h3⟩, a3, a4⟩ := ff.wh i _ h
  have hH : H l = some (.lst vs) := a3 _ _ (by rw [h3]; exact upd_same)
  refine ⟨_, a1, l, rfl, ⟨vs, .of hH⟩, fun i' m σ' H' => m = xs.length - i' ∧ i' ≤ xs.length ∧ ∃ x G', forS f x (xs.drop i') = some r ∧ Sts p G0 H0 (envS l x) σ' G' H' ∧ Same G G', ⟨_, rfl, Nat.zero_le _, x0, G, e, (st.pin h a1).le (h0 l), .refl _⟩, ?_⟩
  rintro i' m σ' H' ⟨rfl, hle, x, G', hf, s', sg⟩
  obtain ⟨ws, w1, w2⟩ := s'.pinned (hi l x)
  have hs : SqL p.K H' l ws := .of w1
  have ll := w2.length
  rw [List.length_map] at ll
  by_cases hlt : i' < xs.length
  · obtain ⟨u, u1, u2⟩ := w2.get (i := i') (d := enc xs[i']) (by rw [List.getElem?_map, List.getElem?_eq_getElem hlt]; rfl)
    rw [List.drop_eq_getElem_cons hlt] at hf
    obtain ⟨y, hy, hf⟩ := bind_some hf
    refine .inr ⟨⟨ws, u, hs, u1⟩, fun σ2 H2 => ∃ x G', forS f x (xs.drop (i' + 1)) = some r ∧ Sts p G0 H0 (envS l x) σ2 G' H2 ∧ Same G G', fun σ2 H2 z => ⟨xs.length - (i' + 1), by omega, rfl, hlt, z⟩, fun v H2 yv => ?_⟩
    obtain ⟨rfl, yv⟩ := yv
    have yv := yv ws hs
    rw [u1] at yv; cases yv
    refine hg l x xs[i'] G0 H0 σ' G' H2 u s' u2 _ fun σ3 s3 _ => ?_
    have fin : ∀ σ4 G4 H4, Sts p G0 H0 (envS l y) σ4 G4 H4 → Same G' G4 → ∃ x G', forS f x (xs.drop (i' + 1)) = some r ∧ Sts p G0 H0 (envS l x) σ4 G' H4 ∧ Same G G' := fun σ4 G4 H4 s4 sg4 => ⟨y, G4, hf, s4, sg.trans sg4⟩
    exact hb l x xs[i'] y hy G0 H0 σ3 G' H2 s3 _ fin
  · have ei : i' = xs.length := by omega
    subst ei
    rw [List.drop_length] at hf
    cases hf
    exact .inl ⟨⟨ws, hs, by omega⟩, q σ' G' H' ((s'.unpin (hi l _)).le (hn l _)) sg⟩
theorem k_forBP [Imm α] {nw : Bool} {i : Nat} {g : TG} {js : List Nat} {d : D} {mx : Option (List α)} {f : s → α → Option (Rr s β)} {envS : Addr → s → List Sl} {envB : Addr → s → α → List Sl} {envN : s → List Sl} {x0 : s}
    (h : env[i]? = some (.rs (dn d))) (hd : ∀ xs, mx = some xs → d = .lst (xs.map enc)) (hi : ∀ l x, (envS l x)[i]? = some (.rs (dnAt l d))) (h0 : ∀ l, leE (env.set i (.rs (dnAt l d))) (envS l x0)) (hn : ∀ l x, leE ((envS l x).set i (.rs (dn d))) (envN x))
    (hg : ∀ l x a, Tg p g (enc a) (envS l x) (envB l x a) js) (hb : ∀ l x a, Bk p t (envB l x a) (f x a) (pB p nw (envS l))) : Bk p (tFor (iList p.K (tVar i)) g t) env (mx.bind fun xs => forB f x0 xs) (pB p nw envN) := fun r e G0 H0 σ G H st D q => by
  obtain ⟨xs, e1, e⟩ := bind_some e
  have ed := hd xs e1
  subst ed
  obtain ⟨Fs, ff⟩ := st.rs
  obtain ⟨v, a1, ⟨l, vs, F', rfl, h1, h2, h3⟩, a3, a4⟩ := ff.wh i _ h
  have hH : H l = some (.lst vs) := a3 _ _ (by rw [h3]; exact upd_same)
  refine ⟨_, a1, l, rfl, ⟨vs, .of hH⟩, fun i' m σ' H' => m = xs.length - i' ∧ i' ≤ xs.length ∧ ∃ x G', forB f x (xs.drop i') = some r ∧ Sts p G0 H0 (envS l x) σ' G' H' ∧ Same G G', ⟨_, rfl, Nat.zero_le _, x0, G, e, (st.pin h a1).le (h0 l), .refl _⟩, ?_⟩
  rintro i' m σ' H' ⟨rfl, hle, x, G', hf, s', sg⟩
  obtain ⟨ws, w1, w2⟩ := s'.pinned (hi l x)
  have hs : SqL p.K H' l ws := .of w1
  have ll := w2.length
  rw [List.length_map] at ll
  by_cases hlt : i' < xs.length
  · obtain ⟨u, u1, u2⟩ := w2.get (i := i') (d := enc xs[i']) (by rw [List.getElem?_map, List.getElem?_eq_getElem hlt]; rfl)
    rw [List.drop_eq_getElem_cons hlt] at hf
    obtain ⟨y, hy, hf⟩ := bind_some hf
    refine .inr ⟨⟨ws, u, hs, u1⟩, fun σ2 H2 => ∃ x G', forB f x (xs.drop (i' + 1)) = some r ∧ Sts p G0 H0 (envS l x) σ2 G' H2 ∧ Same G G', fun σ2 H2 z => ⟨xs.length - (i' + 1), by omega, rfl, hlt, z⟩, fun v H2 yv => ?_⟩
    obtain ⟨rfl, yv⟩ := yv
    have yv := yv ws hs
    rw [u1] at yv; cases yv
    refine hg l x xs[i'] G0 H0 σ' G' H2 u s' u2 _ fun σ3 s3 _ => ?_
    refine hb l x xs[i'] y hy G0 H0 σ3 G' H2 s3 _ ?_
    cases y with
    | nx y => exact fun σ4 G4 H4 s4 sg4 => ⟨y, G4, hf, s4, sg.trans sg4⟩
    | rt y =>
      cases hf
      exact q
  · have ei : i' = xs.length := by omega
    subst ei
    rw [List.drop_length] at hf
    cases hf
    exact .inl ⟨⟨ws, hs, by omega⟩, q σ' G' H' ((s'.unpin (hi l _)).le (hn l _)) sg⟩
/-! ### own lists returned -/
theorem k_retOD [Imm α] {i : Nat} {xs : List α} (h : env[i]? = some (.ow (xs.map enc))) : Bk p (tRet (tVar i)) env (some xs) (pD p (List α)) := fun r e G0 H0 σ G H st D q => by
  cases e
  obtain ⟨Fs, f⟩ := st.rs
  obtain ⟨v, a1, ⟨l, vs, rfl, eF, h2⟩, a3, a4⟩ := f.wh i _ h
  exact ⟨_, a1, q _ G H (Fs i) st.gr a3 (fun a o z => ⟨(a4 a o z).2, (a4 a o z).1⟩) ⟨l, vs, nil, rfl, DnA.of_imm (immA_map xs) h2, rfl, eF⟩⟩
/-- this, or None -/
theorem k_someD {m : Option α} (h : Bk p t env m (pD p α)) : Bk p t env (m.bind fun x => some (some x)) (pD p (Option α)) := fun r e G0 H0 σ G H st D q => by
  obtain ⟨x, e1, e⟩ := bind_some e
  cases e
  exact h x e1 G0 H0 σ G H st D q
theorem en_non : EvN p (tC .non) env (some (none : Option α)) := fun x e G0 H0 σ G H s Q k => by
  cases e
  exact k _ G H nil (.refl s.gr.s) (fun _ _ z => nomatch z) (fun _ _ z => nomatch z) ⟨rfl, rfl⟩
theorem en_some {m : Option α} (h : EvN p te env m) : EvN p te env (m.bind fun x => some (some x)) := fun y e => by
  obtain ⟨x, e1, e2⟩ := bind_some e
  cases e2
  exact h x e1
/-- the place of what is not None -/
theorem lens_un {i : Nat} {x : α} {g : Option (Option β)} {put : Option β → Option α} (L : Lens p env te i x g put) : Lens p env te i x (g.bind fun o => o) (fun c => put (some c)) where
  run := fun {σ G H F v c} h0 h1 h2 h3 e => by
    obtain ⟨o, e1, e2⟩ := bind_some e
    have e2 : o = some c := e2
    subst e2
    obtain ⟨u, Fe, Fr, q1, q2, q3, q5, q4⟩ := L.run h0 h1 h2 h3 e1
    exact ⟨u, Fe, Fr, q1, q2, q3, q5, fun G' c' x' Fe' sg e' k1 k2 => q4 G' (some c') x' Fe' sg e' k1 k2⟩
/-! ### remove -/
def rem? (xs : List Int) (x : Int) : Option (List Int) := if x ∈ xs then some (xs.erase x) else none
theorem erase_at {xs : List Int} {x : Int} (h : x ∈ xs) : ∃ j : Nat, xs[j]? = some x ∧ (∀ m : Nat, m < j → xs[m]? ≠ some x) ∧ xs.erase x = xs.eraseIdx j := by
  induction xs with
  | nil => cases h
  | cons y ys ih =>
    by_cases c : y = x
    · subst c
      exact ⟨0, rfl, fun m hm => absurd hm (by omega), by simp⟩
    · have hy : x ∈ ys := by
        rcases List.mem_cons.mp h with h | h
        · exact absurd h.symm c
        · exact h
      obtain ⟨j, h1, h2, h3⟩ := ih hy
      refine ⟨j + 1, h1, fun m hm => ?_, ?_⟩
      · cases m with
        | zero => intro z; exact c (Option.some.inj z)
        | succ m => exact h2 m (by omega)
      · rw [List.erase_cons, if_neg (by simpa using c), h3]; rfl
theorem k_rem {i : Nat} {xs : List Int} {me : Option Int} {rest : List Int → Option ρ} (h : env[i]? = some (.ow (xs.map enc))) (he : Ev p false te env me) (k : ∀ ys, Bk p tz (env.set i (.ow (ys.map enc))) (rest ys) Po) :
    Bk p (tSeq (tDrop (tBM p.K "list" rRemI (tVar i) (tCons te tNil))) tz) env (me.bind fun x => (rem? xs x).bind rest) Po := fun r e G0 H0 σ G H st D q => by
  obtain ⟨x, e1, e⟩ := bind_some e
  obtain ⟨ys, e2, e⟩ := bind_some e
  unfold rem? at e2
  split at e2
  · rename_i hm
    cases e2
    obtain ⟨Fs, f⟩ := st.rs
    obtain ⟨v, a1, ⟨l0, vs0, rfl, eF, h2⟩, a3, a4⟩ := f.wh i _ h
    refine ⟨.ref l0, a1, .inl ⟨rfl, _, .of (a3 _ _ (by rw [eF]; exact upd_same))⟩, ?_⟩
    refine he x e1 G0 H0 σ G H st _ fun u G1 H1 g1 r1 => ?_
    cases (show u = .int x from r1)
    refine (st.step g1).put h fun l vs b1 b2 b3 _ b4 => ?_
    rw [a1] at b1; cases b1
    have ev : vs = xs.map V.int := RpA.ints b3
    subst ev
    obtain ⟨j, j1, j2, j3⟩ := erase_at hm
    refine ⟨l0, xs, x, j, rfl, rfl, b2, j1, j2, ?_⟩
    refine k (xs.erase x) r e G0 H0 σ G1 _ ?_ D (Po.mono g1.g q)
    rw [j3]
    exact b4 _ _ RpA.of_ints
  · cases e2
end
section
variable {X : Cx} {e : Expr} {es : List Expr} {t : TA}
theorem xe_remove (K) {apos cpos : Pos} {o : Expr} {to : TE} (ho : PE X o to) (ha : PA X (e :: es) t) (hbase : attributeBase o "remove" X.env (eval o X.env) = eval o X.env := by rfl)
    (hfew : ((backTo cpos (starEach (e :: es) X.env)).all (fun x => !x.1) && (backToKw cpos (keywordEach [] X.env)).all (fun x => x.1.isSome) && decide ((e :: es).length + ([] : List Keyword).length + (if ([] : List Keyword).isEmpty then 0 else 1) < 30)) = true := by rfl)
    (hline : (apos.endLine == cpos.line) = true := by rfl) (hs : starEach (e :: es) X.env = (false, eval e X.env) :: starEach es X.env := by rfl) (hplain : (backTo cpos (starEach es X.env)).any (·.1) = false := by rfl) (hK : X.K = K := by rfl) :
    PE X (.Call (.Attribute o "remove" apos) (e :: es) [] cpos) (tBM K "list" rRemI to t) := by
  subst hK
  exact pe_bm PySem.F.plainAttrs_list PySem.F.slot_list_remove PySem.F.type_list_remove mt_remove ho ha hbase hfew hline hs hplain
end
end PU

set_option Elab.async false
set_option maxRecDepth 100000
set_option linter.all false
/-! PU22: what is new, of any sort; dicts of whole numbers. -/
namespace PU
open PySem L2
open Enc
section
variable {p : Pm} {env env' : List Sl} {ta tb te tk : TE} {t tz : TS} {α β γ ρ s : Type} [Enc α] [Enc β] [Enc γ] {Po : Post ρ}
/-- te gives m, a new thing of the sort r -/
def EvR (p : Pm) (te : TE) (env : List Sl) {α : Type} (m : Option α) (r : α → Rs) : Prop :=
  ∀ x, m = some x → ∀ G0 H0 σ G H, Sts p G0 H0 env σ G H → ∀ Q : VK, (∀ v G' H' N, Gr G G' H H' → Same N H' → (∀ a o, N a = some o → H a = none ∧ G' a = none) → (r x).R p G' v N → Q v H') → te σ H Q
theorem EvN.r {m : Option α} (h : EvN p te env m) : EvR p te env m fun x => dn (enc x) := h
theorem k_asgR {δ : Type} {r : δ → Rs} {i : Nat} {me : Option δ} {rest : δ → Option ρ} (h : EvR p te env me r) (k : ∀ x, Bk p tz (env.set i (.rs (r x))) (rest x) Po) : Bk p (tSeq (tAsg te (gName i)) tz) env (me.bind rest) Po := fun q e G0 H0 σ G H st D z => by
  obtain ⟨x, e1, e⟩ := bind_some e
  refine h x e1 G0 H0 σ G H st _ fun v G1 H1 N g1 sN nN r1 => ?_
  exact k x q e G0 H0 _ G1 H1 (st.set_rs g1 r1 sN nN) D (Po.mono g1.g z)
/-- a, b = (a new thing), y -/
theorem k_parR {δ : Type} {r : δ → Rs} {i j : Nat} {ma : Option δ} {mb : Option β} {rest : δ → β → Option ρ} (ha : EvR p ta env ma r) (hb : Ev p false tb env mb) (k : ∀ x y, Bk p tz ((env.set i (.rs (r x))).set j (.va (enc y))) (rest x y) Po) :
    Bk p (tSeq (tPar i j (tCons ta (tCons tb tNil))) tz) env (ma.bind fun x => mb.bind fun y => rest x y) Po := fun q e G0 H0 σ G H st D z => by
  obtain ⟨x, e1, e⟩ := bind_some e
  obtain ⟨y, e2, e⟩ := bind_some e
  refine ha x e1 G0 H0 σ G H st _ fun v G1 H1 N g1 sN nN r1 => hb y e2 G0 H0 σ G1 H1 (st.step g1) _ fun w G2 H2 g2 r2 => ⟨v, w, rfl, ?_⟩
  refine k x y q e G0 H0 _ G2 H2 ?_ D (Po.mono (g1.trans g2).g z)
  have s1 : Sts p G0 H0 (env.set i (.rs (r x))) (σ.set i (some v)) G1 H1 := st.set_rs g1 r1 sN nN
  exact (s1.step g2).set_va r2
/-- the same by a tuple, and unpacked -/
theorem k_tupR {δ : Type} {r : δ → Rs} {i j : Nat} {ma : Option δ} {mb : Option β} {rest : δ → β → Option ρ} (ha : EvR p ta env ma r) (hb : Ev p false tb env mb) (k : ∀ x y, Bk p tz ((env.set i (.rs (r x))).set j (.va (enc y))) (rest x y) Po) :
    Bk p (tSeq (tAsg (tTup (tCons ta (tCons tb tNil))) (gTup p.K 2 (gCons (gName i) (gCons (gName j) gNil)))) tz) env (ma.bind fun x => mb.bind fun y => rest x y) Po := fun q e G0 H0 σ G H st D z => by
  obtain ⟨x, e1, e⟩ := bind_some e
  obtain ⟨y, e2, e⟩ := bind_some e
  refine ha x e1 G0 H0 σ G H st _ fun v G1 H1 N g1 sN nN r1 => hb y e2 G0 H0 σ G1 H1 (st.step g1) _ fun w G2 H2 g2 r2 => ?_
  refine ⟨by show 2 ≤ sizeLine; decide, fun l hl => ⟨l, [v, w], rfl, .of upd_same, rfl, v, _, rfl, w, _, rfl, rfl, ?_⟩⟩
  have s1 : Sts p G0 H0 (env.set i (.rs (r x))) (σ.set i (some v)) G1 H1 := st.set_rs g1 r1 sN nN
  exact k x y q e G0 H0 _ G2 _ (((s1.step g2).set_va r2).step ⟨.refl _, g2.s.trans (same_new hl), same_new hl, fun a o h z => by rw [h] at z; cases z⟩) D (Po.mono (g1.trans g2).g z)
/-! ### two at once, of any sort -/
def RsX (p : Pm) (H G' H' : Hp) (v : V) : Sl → Prop
  | .fr => True
  | .va d => Rp p G' d v
  | .rs r => ∃ N, Same N H' ∧ (∀ a o, N a = some o → H a = none ∧ G' a = none) ∧ r.R p G' v N
def EvX (p : Pm) (te : TE) (env : List Sl) {α : Type} (m : Option α) (f : α → Sl) : Prop :=
  ∀ x, m = some x → ∀ G0 H0 σ G H, Sts p G0 H0 env σ G H → ∀ Q : VK, (∀ v G' H', Gr G G' H H' → RsX p H G' H' v (f x) → Q v H') → te σ H Q
theorem ex_va {m : Option α} (h : Ev p false te env m) : EvX p te env m fun x => .va (enc x) := h
theorem ex_ow {m : Option (List α)} (h : Ev p true te env m) : EvX p te env m fun x => .ow (x.map enc) := fun x e G0 H0 σ G H st Q k =>
  h x e G0 H0 σ G H st Q fun v G' H' g r => by
    obtain ⟨l, vs, ds, rfl, e2, h1, h2, h3, h4⟩ := r
    have e3 : ds = x.map enc := by
      injection e2 with e2
      exact e2.symm
    subst e3
    refine k _ G' H' g ⟨sing l (.lst vs), fun a o q => ?_, fun a o q => ?_, l, vs, rfl, rfl, h4⟩
    · obtain ⟨rfl, rfl⟩ := sing_iff.mp q; exact h3
    · obtain ⟨rfl, rfl⟩ := sing_iff.mp q; exact ⟨h1, h2⟩
theorem ex_r {δ : Type} {r : δ → Rs} {m : Option δ} (h : EvR p te env m r) : EvX p te env m fun x => .rs (r x) := fun x e G0 H0 σ G H st Q k =>
  h x e G0 H0 σ G H st Q fun v G' H' N g s n z => k v G' H' g ⟨N, s, n, z⟩
theorem ex_dn {m : Option α} (h : EvN p te env m) : EvX p te env m fun x => .rs (dn (enc x)) := ex_r (r := fun x => dn (enc x)) h
theorem Sts.setX {σ : St} {G0 H0 G H G' H' : Hp} {i : Nat} {v : V} {s : Sl} (st : Sts p G0 H0 env σ G H) (g : Gr G G' H H') (r : RsX p H G' H' v s) : Sts p G0 H0 (env.set i s) (σ.set i (some v)) G' H' := by
  cases s with
  | va d => exact (st.step g).set_va r
  | rs q =>
    obtain ⟨N, h1, h2, h3⟩ := r
    exact st.set_rs g h3 h1 h2
  | fr =>
    have st' := (st.step g).set_va (i := i) (d := .non) (v := .non) rfl
    obtain ⟨Fs, f⟩ := (st.step g).rs
    refine ⟨st'.gr, by have := st'.len; simp at this ⊢; exact this, fun j d q => ?_, Fs, fun j r' q => ?_, fun j k r1 r2 a o n q q' => ?_⟩
    · rcases set_get q with ⟨_, q, _⟩ | ⟨hj, q⟩
      · cases q
      · rw [List.getElem?_set_ne hj]
        exact (st.step g).va j d q
    · rcases set_get q with ⟨_, q, _⟩ | ⟨hj, q⟩
      · cases q
      · rw [List.getElem?_set_ne hj]
        exact f.wh j r' q
    · rcases set_get q with ⟨_, q, _⟩ | ⟨_, q⟩
      · cases q
      · rcases set_get q' with ⟨_, q', _⟩ | ⟨_, q'⟩
        · cases q'
        · exact f.ap j k r1 r2 a o n q q'
theorem k_parX {δ ε : Type} {fa : δ → Sl} {fb : ε → Sl} {i j : Nat} {ma : Option δ} {mb : Option ε} {rest : δ → ε → Option ρ} (ha : EvX p ta env ma fa) (hb : EvX p tb env mb fb) (k : ∀ x y, Bk p tz ((env.set i (fa x)).set j (fb y)) (rest x y) Po) :
    Bk p (tSeq (tPar i j (tCons ta (tCons tb tNil))) tz) env (ma.bind fun x => mb.bind fun y => rest x y) Po := fun q e G0 H0 σ G H st D z => by
  obtain ⟨x, e1, e⟩ := bind_some e
  obtain ⟨y, e2, e⟩ := bind_some e
  refine ha x e1 G0 H0 σ G H st _ fun v G1 H1 g1 r1 => hb y e2 G0 H0 σ G1 H1 (st.step g1) _ fun w G2 H2 g2 r2 => ⟨v, w, rfl, ?_⟩
  exact k x y q e G0 H0 _ G2 H2 ((st.setX g1 r1).setX g2 r2) D (Po.mono (g1.trans g2).g z)
theorem k_tupX {δ ε : Type} {fa : δ → Sl} {fb : ε → Sl} {i j : Nat} {ma : Option δ} {mb : Option ε} {rest : δ → ε → Option ρ} (ha : EvX p ta env ma fa) (hb : EvX p tb env mb fb) (k : ∀ x y, Bk p tz ((env.set i (fa x)).set j (fb y)) (rest x y) Po) :
    Bk p (tSeq (tAsg (tTup (tCons ta (tCons tb tNil))) (gTup p.K 2 (gCons (gName i) (gCons (gName j) gNil)))) tz) env (ma.bind fun x => mb.bind fun y => rest x y) Po := fun q e G0 H0 σ G H st D z => by
  obtain ⟨x, e1, e⟩ := bind_some e
  obtain ⟨y, e2, e⟩ := bind_some e
  refine ha x e1 G0 H0 σ G H st _ fun v G1 H1 g1 r1 => hb y e2 G0 H0 σ G1 H1 (st.step g1) _ fun w G2 H2 g2 r2 => ?_
  refine ⟨by show 2 ≤ sizeLine; decide, fun l hl => ⟨l, [v, w], rfl, .of upd_same, rfl, v, _, rfl, w, _, rfl, rfl, ?_⟩⟩
  exact k x y q e G0 H0 _ G2 _ (((st.setX g1 r1).setX g2 r2).step ⟨.refl _, g2.s.trans (same_new hl), same_new hl, fun a o h z => by rw [h] at z; cases z⟩) D (Po.mono (g1.trans g2).g z)
/-! ### dicts of whole numbers -/
def kvs (m : List (Int × Int)) : List (Key × V) := m.map fun q => (.inl q.1, .int q.2)
def dct (m : List (Int × Int)) : Rs := ⟨fun _ _ v F => ∃ a, v = .ref a ∧ F = sing a (.dK (kvs m)), fun _ h => h⟩
def getM (m : List (Int × Int)) (k : Int) : Option Int := (m.find? fun q => decide (q.1 = k)).map (·.2)
def getD (m : List (Int × Int)) (k z : Int) : Int := (getM m k).getD z
def putM (m : List (Int × Int)) (k v : Int) : List (Int × Int) := if (m.any fun q => decide (q.1 = k)) = true then m.map (fun q => if q.1 = k then (q.1, v) else q) else m ++ [(k, v)]
def putD? (m : List (Int × Int)) (k v : Int) : Option (List (Int × Int)) := if m.length < 100000 then some (putM m k v) else none
theorem valV_kvs {m : List (Int × Int)} {k : Int} : valV (kvs m) (.inl k) = (getM m k).map V.int := by
  unfold valV kvs getM
  rw [List.find?_map]
  have : ((fun kv : Key × V => decide (kv.1 = .inl k)) ∘ fun q : Int × Int => ((.inl q.1 : Key), V.int q.2)) = fun q : Int × Int => decide (q.1 = k) := by
    funext q
    show decide ((Sum.inl q.1 : Key) = .inl k) = _
    by_cases c : q.1 = k <;> simp [c]
  rw [this]
  cases m.find? fun q => decide (q.1 = k) <;> rfl
theorem putK_kvs {m : List (Int × Int)} {k v : Int} : putK (kvs m) (.inl k) (.int v) = kvs (putM m k v) := by
  unfold putK putM
  have e : ((kvs m).any fun kv => decide (kv.1 = .inl k)) = m.any fun q => decide (q.1 = k) := by
    unfold kvs
    rw [List.any_map]
    congr 1
    funext q
    show decide ((Sum.inl q.1 : Key) = .inl k) = _
    by_cases c : q.1 = k <;> simp [c]
  rw [e]
  by_cases c : (m.any fun q => decide (q.1 = k)) = true
  · rw [if_pos c, if_pos c]
    unfold kvs
    rw [List.map_map, List.map_map]
    congr 1
    funext q
    show (if (Sum.inl q.1 : Key) = .inl k then _ else _) = _
    by_cases d : q.1 = k
    · rw [if_pos (by rw [d]), show ((fun q : Int × Int => ((.inl q.1 : Key), V.int q.2)) ∘ fun q : Int × Int => if q.1 = k then (q.1, v) else q) q = (.inl (if q.1 = k then (q.1, v) else q).1, .int (if q.1 = k then (q.1, v) else q).2) from rfl, if_pos d]
    · rw [if_neg (by simpa using d), show ((fun q : Int × Int => ((.inl q.1 : Key), V.int q.2)) ∘ fun q : Int × Int => if q.1 = k then (q.1, v) else q) q = (.inl (if q.1 = k then (q.1, v) else q).1, .int (if q.1 = k then (q.1, v) else q).2) from rfl, if_neg d]
  · rw [if_neg c, if_neg c]
    unfold kvs
    rw [List.map_append]; rfl
theorem er_dnew : EvR p tDNewK env (some ([] : List (Int × Int))) dct := fun x e G0 H0 σ G H s Q k a na => by
  cases e
  refine k (.ref a) G _ (sing a (.dK [])) (.own s.gr.s na) (fun b o q => ?_) (fun b o q => ?_) ⟨a, rfl, rfl⟩
  · obtain ⟨rfl, rfl⟩ := sing_iff.mp q; exact upd_same
  · obtain ⟨rfl, rfl⟩ := sing_iff.mp q; exact ⟨na, s.gr.s.free na⟩
theorem Sts.dct {i : Nat} {m : List (Int × Int)} {σ : St} {G0 H0 G H : Hp} (s : Sts p G0 H0 env σ G H) (h : env[i]? = some (.rs (dct m))) : ∃ a, σ[i]? = some (some (.ref a)) ∧ H a = some (.dK (kvs m)) := by
  obtain ⟨Fs, f⟩ := s.rs
  obtain ⟨v, a1, ⟨a, rfl, eF⟩, a3, a4⟩ := f.wh i _ h
  exact ⟨a, a1, a3 _ _ (by rw [eF]; exact upd_same)⟩
/-- d.get(k, z) -/
theorem dct_get2 {i : Nat} {m : List (Int × Int)} {mk mz : Option Int} (h : env[i]? = some (.rs (dct m))) (hk : Ev p false ta env mk) (hz : Ev p false tb env mz) : Ev p false (tDGet2 (tVar i) ta tb) env (mk.bind fun k => mz.bind fun z => some (getD m k z)) := fun r e G0 H0 σ G H s Q kk => by
  obtain ⟨k, e1, e⟩ := bind_some e
  obtain ⟨z, e2, e⟩ := bind_some e
  cases e
  obtain ⟨a, a1, a2⟩ := s.dct h
  refine ⟨_, a1, a, rfl, .inl ⟨_, .of a2⟩, ?_⟩
  refine hk k e1 G0 H0 σ G H s _ fun v G1 H1 g1 r1 => hz z e2 G0 H0 σ G1 H1 (s.step g1) _ fun w G2 H2 g2 r2 => ?_
  cases (show v = .int k from r1)
  cases (show w = .int z from r2)
  refine ⟨(getM m k).map V.int, ?_, kk _ G2 H2 (g1.trans g2) ?_⟩
  · rw [← valV_kvs]
    exact DGet.k (k := .inl k) ((g1.trans g2).h _ _ a2)
  · show ((getM m k).map V.int).getD (.int z) = .int (getD m k z)
    unfold getD
    cases getM m k <;> rfl
/-- d[k] = e -/
theorem k_dput {i : Nat} {m : List (Int × Int)} {mk me : Option Int} {rest : List (Int × Int) → Option ρ} (h : env[i]? = some (.rs (dct m))) (he : Ev p false te env me) (hk : Ev p false ta env mk) (k : ∀ m', Bk p tz (env.set i (.rs (dct m'))) (rest m') Po) :
    Bk p (tSeq (tAsg te (gSub (tVar i) ta rSetD)) tz) env (me.bind fun x => mk.bind fun j => (putD? m j x).bind rest) Po := fun r e G0 H0 σ G H st D q => by
  obtain ⟨x, e1, e⟩ := bind_some e
  obtain ⟨j, e2, e⟩ := bind_some e
  obtain ⟨m', e3, e⟩ := bind_some e
  unfold putD? at e3
  split at e3
  · rename_i hl
    cases e3
    refine he x e1 G0 H0 σ G H st _ fun v G1 H1 g1 r1 => ?_
    obtain ⟨a, a1, a2⟩ := st.dct h
    refine ⟨_, a1, ?_⟩
    refine hk j e2 G0 H0 σ G1 H1 (st.step g1) _ fun w G2 H2 g2 r2 => ?_
    cases (show v = .int x from r1)
    cases (show w = .int j from r2)
    have g := g1.trans g2
    refine ⟨a, _, rfl, DPut.k (k := .inl j) (g.h _ _ a2) (by unfold kvs; rw [List.length_map]; exact Nat.lt_of_lt_of_le hl (by decide)), ?_⟩
    refine st.writeG g h fun v0 F b1 b2 b3 b4 wr => ?_
    rw [a1] at b1
    cases b1
    obtain ⟨a', ea, rfl⟩ := b2
    cases ea
    have es : σ = σ.set i (some (.ref a)) := by
      obtain ⟨hi, hh⟩ := List.getElem?_eq_some_iff.mp a1
      rw [← hh, List.set_getElem_self]
    rw [putK_kvs, es]
    refine k (putM m j x) r e G0 H0 _ G2 _ (wr (dct (putM m j x)) (.ref a) (sing a (.dK (kvs (putM m j x)))) _ ⟨fun b o z => ?_, fun b z1 z2 => ?_, fun b o z1 z2 => ?_⟩ ⟨a, rfl, rfl⟩) D (Po.mono g.g q)
    · obtain ⟨rfl, rfl⟩ := sing_iff.mp z; exact upd_same
    · have c : b ≠ a := fun c => by
        subst c
        have : sing b (HO.dK (kvs m)) b = none := z1
        rw [show sing b (HO.dK (kvs m)) b = some (.dK (kvs m)) from upd_same] at this; cases this
      exact upd_ne c
    · obtain ⟨rfl, rfl⟩ := sing_iff.mp z1
      rw [show sing b (HO.dK (kvs m)) b = some (.dK (kvs m)) from upd_same] at z2; cases z2
  · cases e3
theorem ev_intB {ma : Option Bool} (h : Ev p false te env ma) : Ev p false (tCB (fun xs H Q => (∃ i, xs = [.int i] ∧ Q (.int i) H) ∨ ∃ k, xs = [.bl k] ∧ Q (.int (if k then 1 else 0)) H) (tCons te tNil)) env (ma.bind fun b => some (if b then (1 : Int) else 0)) := ev_cb1 h fun b z e G H vs s r Q k => by
  cases e
  obtain ⟨v, ws, rfl, h1, rfl⟩ := r
  cases (show v = .bl b from h1)
  exact .inr ⟨b, rfl, k _ G H (.refl s) rfl⟩
end
end PU

set_option Elab.async false
set_option maxRecDepth 100000
set_option linter.all false
/-! PU23: parts of what is one's own, lent for a while; walks that change the items; extend. -/
namespace PU
open PySem L2
open Enc
/-- the value alone -/
def rv (v : V) : Rs := ⟨fun _ _ u F => u = v ∧ F = nil, fun _ h => h⟩
/-- v, and within it w, of the sort q -/
def hold (v w : V) (q : Rs) : Rs := ⟨fun p G x F => x = v ∧ q.R p G w F, fun e h => ⟨h.1, q.mono e h.2⟩⟩
section
variable {p : Pm} {env : List Sl} {σ : St} {G0 H0 G H : Hp}
theorem un_dj_l {A B C : Hp} (h : Dj A C) (k : Dj B C) : Dj (un A B) C := fun a o e => (un_some e).elim (h a o) (k a o)
/-- a part B of what slot i holds is laid aside -/
theorem Sts.lend {i : Nat} {r : Rs} (s : Sts p G0 H0 env σ G H) (e : env[i]? = some (.rs r)) : ∃ v F, σ[i]? = some (some v) ∧ r.R p G v F ∧ Same F H ∧ (∀ a o, F a = some o → G a = none ∧ H0 a = none) ∧
    ∀ (A B : Hp) (r' : Rs), F = un A B → Dj A B → r'.R p G v A → Sts p G0 (un H0 B) (env.set i (.rs r')) σ G H := by
  obtain ⟨Fs, f⟩ := s.rs
  obtain ⟨v, a1, a2, a3, a4⟩ := f.wh i _ e
  refine ⟨v, Fs i, a1, a2, a3, a4, fun A B r' eF dj h' => ?_⟩
  have sA : Same A (Fs i) := by rw [eF]; exact same_un1
  have sB : Same B (Fs i) := by rw [eF]; exact same_un2 dj
  refine ⟨⟨s.gr.g, s.gr.s, un_same s.gr.h (sB.trans a3), fun a o q w => un_none.mpr ⟨s.gr.n a o q w, ?_⟩⟩, by simp [s.len], fun j d q => ?_, fun j => if i = j then A else Fs j, fun j r1 q => ?_, fun j l r1 r2 a o n q1 q2 q => ?_⟩
  · cases z : B a with
    | none => rfl
    | some u =>
      have := (a4 a u (sB a u z)).1
      rw [q] at this; cases this
  · rcases set_get q with ⟨_, q, _⟩ | ⟨_, q⟩
    · cases q
    · exact s.va j d q
  · rcases set_get q with ⟨rfl, q, _⟩ | ⟨hj, q⟩
    · cases q
      simp only [if_true]
      refine ⟨v, a1, h', sA.trans a3, fun a o z => ⟨(a4 a o (sA a o z)).1, un_none.mpr ⟨(a4 a o (sA a o z)).2, dj a o z⟩⟩⟩
    · simp only [if_neg hj]
      obtain ⟨v1, b1, b2, b3, b4⟩ := f.wh j r1 q
      refine ⟨v1, b1, b2, b3, fun a o z => ⟨(b4 a o z).1, un_none.mpr ⟨(b4 a o z).2, ?_⟩⟩⟩
      cases y : B a with
      | none => rfl
      | some u =>
        have := f.ap i j _ _ a u hj e q (sB a u y)
        rw [z] at this; cases this
  · have w1 : ∃ r0, env[j]? = some (.rs r0) := by
      rcases set_get q1 with ⟨rfl, _, _⟩ | ⟨_, q⟩
      · exact ⟨_, e⟩
      · exact ⟨_, q⟩
    have w2 : ∃ r0, env[l]? = some (.rs r0) := by
      rcases set_get q2 with ⟨rfl, _, _⟩ | ⟨_, q⟩
      · exact ⟨_, e⟩
      · exact ⟨_, q⟩
    obtain ⟨r3, w1⟩ := w1
    obtain ⟨r4, w2⟩ := w2
    have sub : ∀ j' a o, (if i = j' then A else Fs j') a = some o → Fs j' a = some o := fun j' a o z => by
      by_cases c : i = j'
      · subst c; simp only [if_true] at z; exact sA a o z
      · simp only [if_neg c] at z; exact z
    have h1 := f.ap j l r3 r4 a o n w1 w2 (sub j a o q)
    cases z : (if i = l then A else Fs l) a with
    | none => rfl
    | some u => rw [sub l a u z] at h1; cases h1
/-- and taken back -/
theorem Sts.back {i : Nat} {q r : Rs} {B : Hp} (s : Sts p G0 (un H0 B) env σ G H) (e : env[i]? = some (.rs q)) (bG : ∀ a o, B a = some o → G0 a = none) (bH : Dj B H0)
    (k : ∀ v A, σ[i]? = some (some v) → q.R p G v A → Dj A B → Same B H → r.R p G v (un A B)) : Sts p G0 H0 (env.set i (.rs r)) σ G H := by
  obtain ⟨Fs, f⟩ := s.rs
  obtain ⟨v, a1, a2, a3, a4⟩ := f.wh i _ e
  have dj : Dj (Fs i) B := fun a o z => (un_none.mp (a4 a o z).2).2
  have sB : Same B H := fun a o z => s.gr.h a o (same_un2 bH.symm a o z)
  have sH : Same H0 H := fun a o z => s.gr.h a o (same_un1 a o z)
  have h' := k v (Fs i) a1 a2 dj sB
  have freshB : ∀ a o, B a = some o → G a = none := fun a o z => by
    cases y : G a with
    | none => rfl
    | some u =>
      have := s.gr.n a u y (bG a o z)
      rw [(un_none.mp this).2] at z; cases z
  refine ⟨⟨s.gr.g, s.gr.s, sH, fun a o q w => (un_none.mp (s.gr.n a o q w)).1⟩, by simp [s.len], fun j d q => ?_, fun j => if i = j then un (Fs i) B else Fs j, fun j r1 q => ?_, fun j l r1 r2 a o n q1 q2 q => ?_⟩
  · rcases set_get q with ⟨_, q, _⟩ | ⟨_, q⟩
    · cases q
    · exact s.va j d q
  · rcases set_get q with ⟨rfl, q, _⟩ | ⟨hj, q⟩
    · cases q
      simp only [if_true]
      refine ⟨v, a1, h', un_same a3 sB, fun a o z => ?_⟩
      rcases un_some z with z | z
      · exact ⟨(a4 a o z).1, (un_none.mp (a4 a o z).2).1⟩
      · exact ⟨freshB a o z, bH a o z⟩
    · simp only [if_neg hj]
      obtain ⟨v1, b1, b2, b3, b4⟩ := f.wh j r1 q
      exact ⟨v1, b1, b2, b3, fun a o z => ⟨(b4 a o z).1, (un_none.mp (b4 a o z).2).1⟩⟩
  · have w1 : ∃ r0, env[j]? = some (.rs r0) := by
      rcases set_get q1 with ⟨rfl, _, _⟩ | ⟨_, q⟩
      · exact ⟨_, e⟩
      · exact ⟨_, q⟩
    have w2 : ∃ r0, env[l]? = some (.rs r0) := by
      rcases set_get q2 with ⟨rfl, _, _⟩ | ⟨_, q⟩
      · exact ⟨_, e⟩
      · exact ⟨_, q⟩
    obtain ⟨r3, w1⟩ := w1
    obtain ⟨r4, w2⟩ := w2
    obtain ⟨_, _, _, _, c1⟩ := f.wh j r3 w1
    obtain ⟨_, _, _, _, c2⟩ := f.wh l r4 w2
    have ap := fun a o => f.ap j l r3 r4 a o n w1 w2
    have ap' := fun a o => f.ap l j r4 r3 a o (Ne.symm n) w2 w1
    by_cases cj : i = j
    · subst cj
      simp only [if_true] at q
      simp only [if_neg n]
      rcases un_some q with q | q
      · exact ap a o q
      · cases z : Fs l a with
        | none => rfl
        | some u =>
          have := (un_none.mp (c2 a u z).2).2
          rw [q] at this; cases this
    · simp only [if_neg cj] at q
      by_cases cl : i = l
      · subst cl
        simp only [if_true]
        exact un_none.mpr ⟨ap a o q, (un_none.mp (c1 a o q).2).2⟩
      · simp only [if_neg cl]
        exact ap a o q
/-- what slot i holds goes to slot j -/
theorem Sts.move {i j : Nat} {q : Rs} {v w : V} (s : Sts p G0 H0 env σ G H) (e : env[i]? = some (.rs (hold v w q))) (hij : i ≠ j) : Sts p G0 H0 ((env.set i (.rs (rv v))).set j (.rs q)) (σ.set j (some w)) G H := by
  obtain ⟨Fs, f⟩ := s.rs
  obtain ⟨v0, a1, ⟨rfl, a2⟩, a3, a4⟩ := f.wh i _ e
  have old : ∀ {l : Nat} {r1 : Rs}, ((env.set i (.rs (rv v0))).set j (.rs q))[l]? = some (.rs r1) → (l = j ∧ r1 = q ∧ j < env.length) ∨ (l ≠ j ∧ l = i ∧ r1 = rv v0) ∨ (l ≠ j ∧ l ≠ i ∧ env[l]? = some (.rs r1)) := fun {l r1} z => by
    rcases set_get z with ⟨h1, z, h2⟩ | ⟨h1, z⟩
    · cases z; exact .inl ⟨h1.symm, rfl, by simpa using h2⟩
    · rcases set_get z with ⟨h2, z, _⟩ | ⟨h2, z⟩
      · cases z; exact .inr (.inl ⟨Ne.symm h1, h2.symm, rfl⟩)
      · exact .inr (.inr ⟨Ne.symm h1, Ne.symm h2, z⟩)
  refine ⟨s.gr, by simp [s.len], fun l d z => ?_, fun l => if l = j then Fs i else if l = i then nil else Fs l, fun l r1 z => ?_, fun l l' r1 r2 a o n z1 z2 z => ?_⟩
  · rcases set_get z with ⟨_, z, _⟩ | ⟨h1, z⟩
    · cases z
    · rcases set_get z with ⟨_, z, _⟩ | ⟨h2, z⟩
      · cases z
      · rw [List.getElem?_set_ne h1]
        exact s.va l d z
  · rcases old z with ⟨rfl, rfl, hl⟩ | ⟨h1, rfl, rfl⟩ | ⟨h1, h2, z⟩
    · simp only [if_true]
      exact ⟨w, by rw [List.getElem?_set_self (by rw [s.len]; exact hl)], a2, a3, a4⟩
    · simp only [if_neg h1, if_true]
      exact ⟨v0, by rw [List.getElem?_set_ne (Ne.symm h1)]; exact a1, ⟨rfl, rfl⟩, (fun _ _ z => nomatch z), (fun _ _ z => nomatch z)⟩
    · simp only [if_neg h1, if_neg h2]
      rw [List.getElem?_set_ne (Ne.symm h1)]
      exact f.wh l r1 z
  · rcases old z1 with ⟨rfl, rfl, _⟩ | ⟨h1, rfl, rfl⟩ | ⟨h1, h2, y1⟩
    · simp only [if_true] at z
      rcases old z2 with ⟨rfl, _, _⟩ | ⟨k1, rfl, rfl⟩ | ⟨k1, k2, z2⟩
      · exact absurd rfl n
      · simp only [if_neg k1, if_true]; rfl
      · simp only [if_neg k1, if_neg k2]
        exact f.ap i l' _ _ a o (Ne.symm k2) e z2 z
    · simp only [if_neg h1, if_true] at z
      cases z
    · simp only [if_neg h1, if_neg h2] at z
      rcases old z2 with ⟨rfl, rfl, _⟩ | ⟨k1, rfl, rfl⟩ | ⟨k1, k2, z2⟩
      · simp only [if_true]
        exact f.ap l i _ _ a o h2 y1 e z
      · simp only [if_neg k1, if_true]; rfl
      · simp only [if_neg k1, if_neg k2]
        exact f.ap l l' _ _ a o n y1 z2 z
/-- and back -/
theorem Sts.unmove {i j : Nat} {q : Rs} {v w : V} (s : Sts p G0 H0 env σ G H) (ei : env[i]? = some (.rs (rv v))) (ej : env[j]? = some (.rs q)) (hq : ∀ {G x F}, q.R p G x F → x = w) (hij : i ≠ j) : Sts p G0 H0 ((env.set j .fr).set i (.rs (hold v w q))) σ G H := by
  obtain ⟨Fs, f⟩ := s.rs
  obtain ⟨v0, a1, ⟨rfl, _⟩, _, _⟩ := f.wh i _ ei
  obtain ⟨w0, b1, b2, b3, b4⟩ := f.wh j _ ej
  cases hq b2
  have old : ∀ {l : Nat} {r1 : Rs}, ((env.set j .fr).set i (.rs (hold v0 w q)))[l]? = some (.rs r1) → (l = i ∧ r1 = hold v0 w q) ∨ (l ≠ i ∧ l ≠ j ∧ env[l]? = some (.rs r1)) := fun {l r1} z => by
    rcases set_get z with ⟨h1, z, _⟩ | ⟨h1, z⟩
    · cases z; exact .inl ⟨h1.symm, rfl⟩
    · rcases set_get z with ⟨h2, z, _⟩ | ⟨h2, z⟩
      · cases z
      · exact .inr ⟨Ne.symm h1, Ne.symm h2, z⟩
  refine ⟨s.gr, by simp [s.len], fun l d z => ?_, fun l => if l = i then Fs j else Fs l, fun l r1 z => ?_, fun l l' r1 r2 a o n z1 z2 z => ?_⟩
  · rcases set_get z with ⟨_, z, _⟩ | ⟨h1, z⟩
    · cases z
    · rcases set_get z with ⟨_, z, _⟩ | ⟨h2, z⟩
      · cases z
      · exact s.va l d z
  · rcases old z with ⟨rfl, rfl⟩ | ⟨h1, h2, z⟩
    · simp only [if_true]
      exact ⟨v0, a1, ⟨rfl, b2⟩, b3, b4⟩
    · simp only [if_neg h1]
      exact f.wh l r1 z
  · rcases old z1 with ⟨rfl, rfl⟩ | ⟨h1, h2, y1⟩
    · simp only [if_true] at z
      rcases old z2 with ⟨rfl, rfl⟩ | ⟨k1, k2, z2⟩
      · exact absurd rfl n
      · simp only [if_neg k1]
        exact f.ap j l' _ _ a o (Ne.symm k2) ej z2 z
    · simp only [if_neg h1] at z
      rcases old z2 with ⟨rfl, rfl⟩ | ⟨k1, k2, z2⟩
      · simp only [if_true]
        exact f.ap l j _ _ a o h2 y1 ej z
      · simp only [if_neg k1]
        exact f.ap l l' _ _ a o n y1 z2 z
end
end PU

set_option Elab.async false
set_option maxRecDepth 100000
set_option linter.all false
/-! PU24: walks that change the items of a list at a place within what is one's own. -/
namespace PU
open PySem L2
open Enc
def mapO {γ : Type} (f : γ → Option γ) : List γ → Option (List γ)
  | [] => some []
  | c :: cs => (f c).bind fun y => (mapO f cs).bind fun ys => some (y :: ys)
theorem leE_fr : ∀ (env : List Sl) (j : Nat), leE env (env.set j .fr)
  | [], _ => trivial
  | x :: xs, 0 => ⟨.inl rfl, leE.refl⟩
  | x :: xs, j + 1 => ⟨.inr rfl, leE_fr xs j⟩
theorem upd_un {A B : Hp} {a : Addr} {o : HO} : un (upd A a o) B = upd (un A B) a o := by
  funext b
  unfold un
  by_cases c : b = a
  · subst c
    rw [upd_same, upd_same]
  · rw [upd_ne c, upd_ne c]
theorem set3 {env : List Sl} {i j : Nat} {a b c : Sl} (h : i ≠ j) : ((env.set i a).set j b).set i c = (env.set i c).set j b := by
  rw [List.set_comm _ _ h, List.set_set, List.set_comm _ _ (Ne.symm h)]
theorem set6 {env : List Sl} {i j j2 : Nat} {a b b2 c : Sl} (h : i ≠ j) (h2 : i ≠ j2) : (((env.set i a).set j b).set j2 b2).set i c = ((env.set i c).set j b).set j2 b2 := by
  rw [List.set_comm _ _ (Ne.symm h2), set3 h]
theorem set4 {env : List Sl} {i j j2 : Nat} {a b b2 c d e : Sl} (h : i ≠ j) (h2 : i ≠ j2) (h3 : j ≠ j2) : (((((env.set i a).set j b).set j2 b2).set i c).set j d).set j2 e = ((env.set i c).set j d).set j2 e := by
  rw [set6 h h2]
  rw [List.set_comm _ _ (Ne.symm h3), List.set_set, List.set_set]
theorem set5 {env : List Sl} {i j j2 : Nat} {a b b2 c d : Sl} (h : i ≠ j) (h2 : i ≠ j2) (h3 : j ≠ j2) : ((((env.set i a).set j b).set j2 b2).set j c).set i d = ((env.set i d).set j c).set j2 b2 := by
  rw [List.set_comm _ _ (Ne.symm h3), List.set_set]
  exact set6 h h2
section
variable {p : Pm} {env : List Sl} {te : TE} {t : TS} {w : D → Rs} [Dl w] {α β γ : Type} [Enc α] [Enc β] [Enc γ] {i j : Nat} {x : α}
/-- for y in (the place): y is changed -/
theorem k_forI {g : Option (List γ)} {put : List γ → Option α} {f : γ → Option γ} (h : env[i]? = some (.rs (w (enc x)))) (L : Lens p env te i x g put) (hij : i ≠ j) (hj4 : j < env.length) (hl : ∀ c : γ, ∃ ds, enc c = .lst ds)
    (hb : ∀ v b c, Bk p t ((env.set i (.rs (rv v))).set j (.rs (dnAt b (enc c)))) (f c) (pN p fun c' => (env.set i (.rs (rv v))).set j (.rs (dnAt b (enc c'))))) :
    Bk p (tFor (iList p.K te) (gName j) t) env (g.bind fun l => (mapO f l).bind put) (pN p fun x' => (env.set i (.rs (w (enc x')))).set j .fr) := fun x' e G0 H0 σ G H st D q => by
  obtain ⟨l, e1, e⟩ := bind_some e
  obtain ⟨l', e2, e3⟩ := bind_some e
  have hi : i < env.length := (List.getElem?_eq_some_iff.mp h).1
  obtain ⟨v, F, a1, a2, a3, a4, mk⟩ := st.lend h
  obtain ⟨u, Fe, Fr, q1, ⟨a, xs, F', rfl, d1, d2, rfl⟩, q3, eF, q4⟩ := L.run st.ints a1 (Dl.of a2) a3 e1
  have sFr : Same Fr F := by rw [eF]; exact same_un2 q3
  have hH : H a = some (.lst xs) := a3 _ _ (by rw [eF]; exact same_un1 _ _ upd_same)
  have st0 := mk _ Fr (hold v (.ref a) (dn (enc l))) eF q3 ⟨rfl, a, xs, F', rfl, d1, d2, rfl⟩
  have bG : ∀ b o, Fr b = some o → G0 b = none := fun b o z => st.gr.g.free (a4 b o (sFr b o z)).1
  have bH : Dj Fr H0 := fun b o z => (a4 b o (sFr b o z)).2
  refine q1 _ ⟨a, rfl, ⟨xs, .of hH⟩, fun i' m σ' H' => m = l.length - i' ∧ i' ≤ l.length ∧ ∃ done rest' G', done.length = i' ∧ mapO f (l.drop i') = some rest' ∧ done ++ rest' = l' ∧ Sts p G0 (un H0 Fr) ((env.set i (.rs (hold v (.ref a) (dn (.lst ((done ++ l.drop i').map enc)))))).set j .fr) σ' G' H' ∧ Same G G',
    ⟨_, rfl, Nat.zero_le _, [], l', G, rfl, e2, rfl, st0.le (leE_fr _ j), .refl _⟩, ?_⟩
  rintro i' m σ' H' ⟨rfl, hle, done, rest', G', dl, hf, hdone, s', sg⟩
  have ei : ((env.set i (.rs (hold v (.ref a) (dn (.lst ((done ++ l.drop i').map enc)))))).set j .fr)[i]? = some (.rs (hold v (.ref a) (dn (.lst ((done ++ l.drop i').map enc))))) := by
    rw [List.getElem?_set_ne (Ne.symm hij), List.getElem?_set_self hi]
  obtain ⟨v', F2, b1, ⟨hv, a', xs2, F3, ea, c1, c2, rfl⟩, b3, b4, mk2⟩ := s'.lend ei
  cases ea
  subst hv
  have hH2 : H' a = some (.lst xs2) := b3 _ _ upd_same
  have hs : SqL p.K H' a xs2 := .of hH2
  have ll := c1.length
  rw [List.length_map, List.length_append, List.length_drop, dl] at ll
  by_cases hlt : i' < l.length
  · have ed : ((done ++ l.drop i').map enc)[i']? = some (enc l[i']) := by
      rw [List.getElem?_map, List.getElem?_append_right (by omega), dl, Nat.sub_self, List.getElem?_drop, Nat.add_zero, List.getElem?_eq_getElem hlt]; rfl
    obtain ⟨u, Fj, Fo, z1, z2, z3, rfl, z4⟩ := DnA.split c1 ed
    obtain ⟨dc, hdc⟩ := hl l[i']
    have z2' := z2
    rw [hdc] at z2'
    obtain ⟨b, ys, Fb, rfl, y1, y2, y3⟩ := z2'
    have na := un_none.mp c2
    rw [List.drop_eq_getElem_cons hlt] at hf
    obtain ⟨y, hy, hf⟩ := bind_some hf
    obtain ⟨rest2, hr, hf⟩ := bind_some hf
    cases hf
    have eFB : upd (un Fj Fo) a (.lst xs2) = un Fj (upd Fo a (.lst xs2)) := un_upd na.1
    have djB : Dj Fj (upd Fo a (.lst xs2)) := fun k o z => by
      by_cases ck : k = a
      · subst ck; rw [na.1] at z; cases z
      · rw [upd_ne ck]; exact z3 k o z
    have st2 := mk2 Fj (upd Fo a (.lst xs2)) (hold v' (.ref b) (dnAt b (enc l[i']))) eFB djB ⟨rfl, rfl, z2⟩
    have bG2 : ∀ k o, upd Fo a (.lst xs2) k = some o → G0 k = none := fun k o z => s'.gr.g.free (b4 k o (by rw [eFB]; exact same_un2 djB k o z)).1
    have bH2 : Dj (upd Fo a (.lst xs2)) (un H0 Fr) := fun k o z => (b4 k o (by rw [eFB]; exact same_un2 djB k o z)).2
    refine .inr ⟨⟨xs2, .ref b, hs, z1⟩, fun σ2 H2 => ∃ done rest' G', done.length = i' + 1 ∧ mapO f (l.drop (i' + 1)) = some rest' ∧ done ++ rest' = l' ∧ Sts p G0 (un H0 Fr) ((env.set i (.rs (hold v' (.ref a) (dn (.lst ((done ++ l.drop (i' + 1)).map enc)))))).set j .fr) σ2 G' H2 ∧ Same G G',
      fun σ2 H2 z => ⟨l.length - (i' + 1), by omega, rfl, hlt, z⟩, fun x0 H2 yv => ?_⟩
    obtain ⟨rfl, yv⟩ := yv
    have yv := yv xs2 hs
    rw [z1] at yv; cases yv
    have hi2 : i < ((env.set i (.rs (hold v' (.ref a) (dn (.lst ((done ++ l.drop i').map enc)))))).set j .fr).length := by simpa using hi
    have st3 := st2.move (by rw [List.getElem?_set_self hi2]) hij
    rw [List.set_set, set3 hij, List.set_set] at st3
    refine hb v' b l[i'] y hy G0 _ _ G' H2 st3 _ fun σ4 G4 H4 s4 sg4 => ?_
    have hi4 : i < env.length := hi
    have e4i : ((env.set i (.rs (rv v'))).set j (.rs (dnAt b (enc y))))[i]? = some (.rs (rv v')) := by rw [List.getElem?_set_ne (Ne.symm hij), List.getElem?_set_self hi]
    have s5 := s4.unmove (q := dnAt b (enc y)) (w := .ref b) e4i (by rw [List.getElem?_set_self (by simpa using hj4)]) (fun z => z.1) hij
    rw [List.set_set] at s5
    have e5 : (((env.set i (.rs (rv v'))).set j .fr).set i (.rs (hold v' (.ref b) (dnAt b (enc y)))))[i]? = some (.rs (hold v' (.ref b) (dnAt b (enc y)))) := by rw [List.getElem?_set_self (by simpa using hi)]
    have s6 := s5.back (r := hold v' (.ref a) (dn (.lst (((done ++ [y]) ++ l.drop (i' + 1)).map enc)))) e5 bG2 bH2 fun v0 A k1 k2 k3 k4 => by
      obtain ⟨rfl, _, k2⟩ := k2
      have Aa : A a = none := by
        cases zz : A a with
        | none => rfl
        | some o => have := k3 a o zz; rw [upd_same] at this; cases this
      have AFo : Dj A Fo := fun k o zz => by
        by_cases ck : k = a
        · subst ck; rw [Aa] at zz; cases zz
        · have := k3 k o zz; rw [upd_ne ck] at this; exact this
      have n1 := z4 G4 (enc y) A sg4 k2 AFo
      have es : ((done ++ l.drop i').map enc).set i' (enc y) = ((done ++ [y]) ++ l.drop (i' + 1)).map enc := by
        rw [List.drop_eq_getElem_cons hlt, List.map_append, List.set_append_right _ _ (by rw [List.length_map]; omega), List.length_map, dl, Nat.sub_self, List.map_cons, List.set_cons_zero, List.append_assoc, List.map_append]
        rfl
      rw [es] at n1
      exact ⟨rfl, a, xs2, un A Fo, rfl, n1, un_none.mpr ⟨Aa, na.2⟩, (un_upd Aa).symm⟩
    rw [List.set_set, set3 hij] at s6
    exact ⟨done ++ [y], rest2, G4, by simp [dl], hr, by rw [← hdone]; simp, s6, sg.trans sg4⟩
  · have ei' : i' = l.length := by omega
    subst ei'
    rw [List.drop_length] at hf
    cases hf
    rw [List.append_nil] at hdone
    subst hdone
    refine .inl ⟨⟨xs2, hs, by omega⟩, ?_⟩
    have s6 := s'.back (r := w (enc x')) ei bG bH fun v0 A k1 k2 k3 k4 => by
      obtain ⟨rfl, k2⟩ := k2
      rw [List.drop_length, List.append_nil] at k2
      exact Dl.back a2 (q4 G' done x' A sg e3 k2 k3)
    rw [set3 hij] at s6
    exact q σ' G' H' s6 sg
/-- for y, k in (the place): y is changed -/
theorem k_forT {j2 : Nat} [Scal β] {g : Option (List (γ × β))} {put : List (γ × β) → Option α} {f : γ → Option γ} (h : env[i]? = some (.rs (w (enc x)))) (L : Lens p env te i x g put) (hij : i ≠ j) (hj4 : j < env.length) (hij2 : i ≠ j2) (hjj2 : j ≠ j2) (hl : ∀ c : γ, ∃ ds, enc c = .lst ds)
    (hb : ∀ v b c (m : β), Bk p t (((env.set i (.rs (rv v))).set j (.rs (dnAt b (enc c)))).set j2 (.va (enc m))) (f c) (pN p fun c' => ((env.set i (.rs (rv v))).set j (.rs (dnAt b (enc c')))).set j2 .fr)) :
    Bk p (tFor (iList p.K te) (gTup p.K 2 (gCons (gName j) (gCons (gName j2) gNil))) t) env (g.bind fun l => (mapO (fun q : γ × β => (f q.1).bind fun c => some (c, q.2)) l).bind put) (pN p fun x' => ((env.set i (.rs (w (enc x')))).set j .fr).set j2 .fr) := fun x' e G0 H0 σ G H st D q => by
  obtain ⟨l, e1, e⟩ := bind_some e
  obtain ⟨l', e2, e3⟩ := bind_some e
  have hi : i < env.length := (List.getElem?_eq_some_iff.mp h).1
  obtain ⟨v, F, a1, a2, a3, a4, mk⟩ := st.lend h
  obtain ⟨u, Fe, Fr, q1, ⟨a, xs, F', rfl, d1, d2, rfl⟩, q3, eF, q4⟩ := L.run st.ints a1 (Dl.of a2) a3 e1
  have sFr : Same Fr F := by rw [eF]; exact same_un2 q3
  have hH : H a = some (.lst xs) := a3 _ _ (by rw [eF]; exact same_un1 _ _ upd_same)
  have st0 := mk _ Fr (hold v (.ref a) (dn (enc l))) eF q3 ⟨rfl, a, xs, F', rfl, d1, d2, rfl⟩
  have bG : ∀ b o, Fr b = some o → G0 b = none := fun b o z => st.gr.g.free (a4 b o (sFr b o z)).1
  have bH : Dj Fr H0 := fun b o z => (a4 b o (sFr b o z)).2
  refine q1 _ ⟨a, rfl, ⟨xs, .of hH⟩, fun i' m σ' H' => m = l.length - i' ∧ i' ≤ l.length ∧ ∃ done rest' G', done.length = i' ∧ mapO (fun q : γ × β => (f q.1).bind fun c => some (c, q.2)) (l.drop i') = some rest' ∧ done ++ rest' = l' ∧ Sts p G0 (un H0 Fr) (((env.set i (.rs (hold v (.ref a) (dn (.lst ((done ++ l.drop i').map enc)))))).set j .fr).set j2 .fr) σ' G' H' ∧ Same G G',
    ⟨_, rfl, Nat.zero_le _, [], l', G, rfl, e2, rfl, (st0.le (leE_fr _ j)).le (leE_fr _ j2), .refl _⟩, ?_⟩
  rintro i' m σ' H' ⟨rfl, hle, done, rest', G', dl, hf, hdone, s', sg⟩
  have ei : (((env.set i (.rs (hold v (.ref a) (dn (.lst ((done ++ l.drop i').map enc)))))).set j .fr).set j2 .fr)[i]? = some (.rs (hold v (.ref a) (dn (.lst ((done ++ l.drop i').map enc))))) := by
    rw [List.getElem?_set_ne (Ne.symm hij2), List.getElem?_set_ne (Ne.symm hij), List.getElem?_set_self hi]
  obtain ⟨v', F2, b1, ⟨hv, a', xs2, F3, ea, c1, c2, rfl⟩, b3, b4, mk2⟩ := s'.lend ei
  cases ea
  subst hv
  have hH2 : H' a = some (.lst xs2) := b3 _ _ upd_same
  have hs : SqL p.K H' a xs2 := .of hH2
  have ll := c1.length
  rw [List.length_map, List.length_append, List.length_drop, dl] at ll
  by_cases hlt : i' < l.length
  · have ed : ((done ++ l.drop i').map enc)[i']? = some (enc l[i']) := by
      rw [List.getElem?_map, List.getElem?_append_right (by omega), dl, Nat.sub_self, List.getElem?_drop, Nat.add_zero, List.getElem?_eq_getElem hlt]; rfl
    obtain ⟨u, Fj, Fo, z1, z2, z3, rfl, z4⟩ := DnA.split c1 ed
    have ni : ∀ c : γ, immA [enc c, enc l[i'].2] = false := fun c => by
      obtain ⟨dc, hdc⟩ := hl c
      show (imm (enc c) && _) = false
      rw [hdc]; rfl
    rcases z2 with ⟨h0, _⟩ | ⟨_, tt, ys, Fc, rfl, dA, tn, rfl⟩
    · rw [ni l[i'].1] at h0; cases h0
    obtain ⟨v1, vs1, Fb, F5, rfl, y1, ⟨v2, vs2, Fm, F6, rfl, y2, ⟨rfl, rfl⟩, _, rfl⟩, _, rfl⟩ := dA
    obtain ⟨y2r, rfl⟩ := Dn.imm_rp _ (Scal.im l[i'].2) y2
    rw [un_nil, un_nil] at *
    obtain ⟨dc, hdc⟩ := hl l[i'].1
    have y1' := y1
    rw [hdc] at y1'
    obtain ⟨b, ys, Fb', rfl, _⟩ := y1'
    have na := un_none.mp c2
    rw [List.drop_eq_getElem_cons hlt] at hf
    obtain ⟨yy, hy, hf⟩ := bind_some hf
    obtain ⟨y, hy2, hyy⟩ := bind_some hy
    cases hyy
    obtain ⟨rest2, hr, hf⟩ := bind_some hf
    cases hf
    have nt := z3 tt _ upd_same
    have ta : tt ≠ a := fun c => by rw [c] at na; rw [upd_same] at na; cases na.1
    have Fba : Fb a = none := by have := na.1; rw [upd_ne (Ne.symm ta)] at this; exact this
    have nFo : upd Fo tt (.tup [.ref b, v2]) a = none := by rw [upd_ne (Ne.symm ta)]; exact na.2
    have eFB : upd (un (upd Fb tt (.tup [.ref b, v2])) Fo) a (.lst xs2) = un Fb (upd (upd Fo tt (.tup [.ref b, v2])) a (.lst xs2)) := by
      rw [upd_un, un_upd tn, un_upd Fba]
    have djB : Dj Fb (upd (upd Fo tt (.tup [.ref b, v2])) a (.lst xs2)) := fun k o z => by
      by_cases ck : k = a
      · subst ck; rw [Fba] at z; cases z
      · rw [upd_ne ck]
        by_cases ct : k = tt
        · subst ct; rw [tn] at z; cases z
        · rw [upd_ne ct]
          exact z3 k o (by rw [upd_ne ct]; exact z)
    have st2 := mk2 Fb (upd (upd Fo tt (.tup [.ref b, v2])) a (.lst xs2)) (hold v' (.ref b) (dnAt b (enc l[i'].1))) eFB djB ⟨rfl, rfl, y1⟩
    have bG2 : ∀ k o, upd (upd Fo tt (.tup [.ref b, v2])) a (.lst xs2) k = some o → G0 k = none := fun k o z => s'.gr.g.free (b4 k o (by rw [eFB]; exact same_un2 djB k o z)).1
    have bH2 : Dj (upd (upd Fo tt (.tup [.ref b, v2])) a (.lst xs2)) (un H0 Fr) := fun k o z => (b4 k o (by rw [eFB]; exact same_un2 djB k o z)).2
    refine .inr ⟨⟨xs2, .ref tt, hs, z1⟩, fun σ2 H2 => ∃ done rest' G', done.length = i' + 1 ∧ mapO (fun q : γ × β => (f q.1).bind fun c => some (c, q.2)) (l.drop (i' + 1)) = some rest' ∧ done ++ rest' = l' ∧ Sts p G0 (un H0 Fr) (((env.set i (.rs (hold v' (.ref a) (dn (.lst ((done ++ l.drop (i' + 1)).map enc)))))).set j .fr).set j2 .fr) σ2 G' H2 ∧ Same G G',
      fun σ2 H2 z => ⟨l.length - (i' + 1), by omega, rfl, hlt, z⟩, fun x0 H2 yv => ?_⟩
    obtain ⟨rfl, yv⟩ := yv
    have yv := yv xs2 hs
    rw [z1] at yv; cases yv
    have hi2 : i < (((env.set i (.rs (hold v' (.ref a) (dn (.lst ((done ++ l.drop i').map enc)))))).set j .fr).set j2 .fr).length := by simpa using hi
    have hT : H2 tt = some (.tup [.ref b, v2]) := b3 _ _ (by rw [upd_ne ta, upd_un]; exact upd_same)
    refine ⟨tt, _, rfl, .of hT, rfl, .ref b, _, rfl, v2, _, rfl, rfl, ?_⟩
    have st3 := st2.move (by rw [List.getElem?_set_self hi2]) hij
    have st3 := st3.set_va (i := j2) (d := enc l[i'].2) (v := v2) y2r
    rw [List.set_set, set4 hij hij2 hjj2] at st3
    refine hb v' b l[i'].1 l[i'].2 y hy2 G0 _ _ G' H2 st3 _ fun σ4 G4 H4 s4 sg4 => ?_
    have hi4 : i < env.length := hi
    have e4i : (((env.set i (.rs (rv v'))).set j (.rs (dnAt b (enc y)))).set j2 .fr)[i]? = some (.rs (rv v')) := by rw [List.getElem?_set_ne (Ne.symm hij2), List.getElem?_set_ne (Ne.symm hij), List.getElem?_set_self hi]
    have s5 := s4.unmove (q := dnAt b (enc y)) (w := .ref b) e4i (by rw [List.getElem?_set_ne (Ne.symm hjj2), List.getElem?_set_self (by simpa using hj4)]) (fun z => z.1) hij
    rw [set5 hij hij2 hjj2] at s5
    have e5 : (((env.set i (.rs (hold v' (.ref b) (dnAt b (enc y))))).set j .fr).set j2 .fr)[i]? = some (.rs (hold v' (.ref b) (dnAt b (enc y)))) := by rw [List.getElem?_set_ne (Ne.symm hij2), List.getElem?_set_ne (Ne.symm hij), List.getElem?_set_self hi]
    have s6 := s5.back (r := hold v' (.ref a) (dn (.lst (((done ++ [(y, l[i'].2)]) ++ l.drop (i' + 1)).map enc)))) e5 bG2 bH2 fun v0 A k1 k2 k3 k4 => by
      obtain ⟨rfl, _, k2⟩ := k2
      have Aa : A a = none := by
        cases zz : A a with
        | none => rfl
        | some o => have := k3 a o zz; rw [upd_same] at this; cases this
      have At : A tt = none := by
        cases zz : A tt with
        | none => rfl
        | some o => have := k3 tt o zz; rw [upd_ne ta, upd_same] at this; cases this
      have AFo : Dj A Fo := fun k o zz => by
        by_cases ck : k = a
        · subst ck; rw [Aa] at zz; cases zz
        · by_cases ct : k = tt
          · subst ct; rw [At] at zz; cases zz
          · have := k3 k o zz; rw [upd_ne ck, upd_ne ct] at this; exact this
      have nT : Dn p G4 (enc (y, l[i'].2)) (.ref tt) (upd A tt (.tup [.ref b, v2])) := .inr ⟨ni y, tt, _, A, rfl, ⟨.ref b, [v2], A, nil, rfl, k2, ⟨v2, [], nil, nil, rfl, Dn.of_imm _ (Scal.im _) (Rp.mono sg4 _ y2r), ⟨rfl, rfl⟩, dj_nil, (nil_un nil).symm⟩, dj_nil', (un_nil A).symm⟩, At, rfl⟩
      have ATo : Dj (upd A tt (.tup [.ref b, v2])) Fo := fun k o zz => by
        by_cases ct : k = tt
        · subst ct; exact nt
        · rw [upd_ne ct] at zz; exact AFo k o zz
      have n1 := z4 G4 (enc (y, l[i'].2)) _ sg4 nT ATo
      have es : ((done ++ l.drop i').map enc).set i' (enc (y, l[i'].2)) = ((done ++ [(y, l[i'].2)]) ++ l.drop (i' + 1)).map enc := by
        rw [List.drop_eq_getElem_cons hlt, List.map_append, List.set_append_right _ _ (by rw [List.length_map]; omega), List.length_map, dl, Nat.sub_self, List.map_cons, List.set_cons_zero, List.append_assoc, List.map_append]
        rfl
      rw [es] at n1
      refine ⟨rfl, a, xs2, un (upd A tt (.tup [.ref b, v2])) Fo, rfl, n1, un_none.mpr ⟨by rw [upd_ne (Ne.symm ta)]; exact Aa, na.2⟩, ?_⟩
      rw [upd_un, un_upd At, un_upd Aa]
    rw [set6 hij hij2] at s6
    exact ⟨done ++ [(y, l[i'].2)], rest2, G4, by simp [dl], hr, by rw [← hdone]; simp, s6, sg.trans sg4⟩
  · have ei' : i' = l.length := by omega
    subst ei'
    rw [List.drop_length] at hf
    cases hf
    rw [List.append_nil] at hdone
    subst hdone
    refine .inl ⟨⟨xs2, hs, by omega⟩, ?_⟩
    have s6 := s'.back (r := w (enc x')) ei bG bH fun v0 A k1 k2 k3 k4 => by
      obtain ⟨rfl, k2⟩ := k2
      rw [List.drop_length, List.append_nil] at k2
      exact Dl.back a2 (q4 G' done x' A sg e3 k2 k3)
    rw [set6 hij hij2] at s6
    exact q σ' G' H' s6 sg
end
end PU

set_option Elab.async false
set_option maxRecDepth 100000
set_option linter.all false
/-! PU25: extend at a place; extend by what is shared, all of it known from then on. -/
namespace PU
open PySem L2
open Enc
/-- known once it is frozen -/
def fzr (d : D) : Rs := ⟨fun p G v F => ∀ G', Same G G' → Dj F G' → Rp p (un G' F) d v, fun e h G' s => h G' (e.trans s)⟩
section
variable {p : Pm} {env : List Sl} {σ : St} {G0 H0 G H : Hp}
theorem Sts.fz {i : Nat} {d : D} (s : Sts p G0 H0 env σ G H) (e : env[i]? = some (.rs (fzr d))) : ∃ G', Same G G' ∧ Sts p G0 H0 (env.set i (.va d)) σ G' H := by
  obtain ⟨Fs, f⟩ := s.rs
  obtain ⟨v, a1, a2, a3, a4⟩ := f.wh i _ e
  have dj : Dj (Fs i) G := fun a o h => (a4 a o h).1
  have sg : Same G (un G (Fs i)) := same_un1
  refine ⟨un G (Fs i), sg, ⟨s.gr.g.trans sg, un_same s.gr.s a3, s.gr.h, fun a o h k => ?_⟩, by simp [s.len], fun j d' q => ?_, Fs, fun j r' q => ?_, fun j k r1 r2 a o n q q' => ?_⟩
  · rcases un_some h with h | h
    · exact s.gr.n a o h k
    · exact (a4 a o h).2
  · rcases set_get q with ⟨rfl, q, hi⟩ | ⟨hj, q⟩
    · cases q
      exact ⟨v, a1, a2 G (.refl _) dj⟩
    · exact (s.va j d' q).imp fun v h => ⟨h.1, Rp.mono sg _ h.2⟩
  · rcases set_get q with ⟨rfl, q, hi⟩ | ⟨hj, q⟩
    · cases q
    · obtain ⟨v', b1, b2, b3, b4⟩ := f.wh j r' q
      refine ⟨v', b1, r'.mono sg b2, b3, fun a o h => ⟨un_none.mpr ⟨(b4 a o h).1, f.ap j i _ _ a o (Ne.symm hj) q e h⟩, (b4 a o h).2⟩⟩
  · rcases set_get q with ⟨_, q, _⟩ | ⟨_, q⟩
    · cases q
    · rcases set_get q' with ⟨_, q', _⟩ | ⟨_, q'⟩
      · cases q'
      · exact f.ap j k r1 r2 a o n q q'
end
section
variable {p : Pm} {env : List Sl} {te ta : TE} {tz : TS} {w : D → Rs} [Dl w] {α β γ ρ : Type} [Enc α] [Enc β] [Enc γ] {Po : Post ρ} {i : Nat} {x : α}
/-- (the place).extend(e), the items unchangeable -/
theorem k_extL [Imm γ] {g : Option (List γ)} {put : List γ → Option α} {me : Option (List γ)} {rest : α → Option ρ} (h : env[i]? = some (.rs (w (enc x)))) (L : Lens p env te i x g put) (he : Ev p false ta env me) (k : ∀ x', Bk p tz (env.set i (.rs (w (enc x')))) (rest x') Po) :
    Bk p (tSeq (tDrop (tBM p.K "list" rExtend te (tCons ta tNil))) tz) env (g.bind fun l => me.bind fun e => (cat? l e).bind fun l' => (put l').bind rest) Po := fun r e G0 H0 σ G H st D q => by
  obtain ⟨l, e1, f1⟩ := bind_some e
  obtain ⟨y, e2, f2⟩ := bind_some f1
  obtain ⟨l', e3, f3⟩ := bind_some f2
  obtain ⟨x', e4, f4⟩ := bind_some f3
  obtain ⟨a, xs, F', q1, q2, q3, q4, q5, q6⟩ := st.lensW h L e1
  unfold cat? at e3
  split at e3
  · rename_i hl
    cases e3
    refine q1 _ ⟨.inl ⟨rfl, _, .of q2⟩, ?_⟩
    refine he y e2 G0 H0 σ G H st _ fun v G1 H1 g1 r1 => ?_
    obtain ⟨b, zs, rfl, r2, r3⟩ := r1
    have ll := DnA.len q3
    rw [List.length_map] at ll
    have lz := r3.length
    rw [List.length_map] at lz
    refine ⟨a, b, xs, zs, rfl, rfl, g1.h _ _ q2, g1.s _ _ r2, Nat.le_trans (show xs.length + zs.length ≤ 100000 by omega) (by decide), ?_⟩
    have n1 : DnA p G1 ((l ++ y).map enc) (xs ++ zs) (un F' nil) := by
      rw [List.map_append]
      exact DnA.append (DnA.mono g1.g _ q3) (DnA.of_imm (immA_map y) r3) dj_nil'
    rw [un_nil] at n1
    exact k x' r f4 G0 H0 σ G1 _ (q6 G1 H1 nil _ x' _ F' g1 (fun b o z => by cases z) (fun b o z => by cases z) e4 n1 fun b o z => .inl z) D (Po.mono g1.g q)
  · cases e3
/-- x.f1.extend(e), f1 the last of two fields; x is not changed any more -/
theorem k_extF1 {get : α → Option (List γ)} {rep : α → List γ → Option α} {f0 f1 : Str} {me : Option (List γ)} {rest : α → Option ρ} (h : env[i]? = some (.rs (w (enc x)))) (hne : (f1 == f0) = false)
    (hb : ∀ b c, get b = some c → ∃ cl d0, enc b = .ins cl [(f0, d0), (f1, enc c)] ∧ Cls p.K (p.cl cl) ∧ NoAttr p.K (p.cl cl) f1 ∧ ∀ c' b', rep b c' = some b' → enc b' = .ins cl [(f0, d0), (f1, enc c')]) (he : Ev p false ta env me)
    (k : ∀ x', Bk p tz (env.set i (.va (enc x'))) (rest x') Po) :
    Bk p (tSeq (tDrop (tBM p.K "list" rExtend (tFld p.K (tVar i) f1) (tCons ta tNil))) tz) env ((get x).bind fun l => me.bind fun e => (cat? l e).bind fun l' => (rep x l').bind rest) Po := fun r e G0 H0 σ G H st D q => by
  obtain ⟨l, e1, g1⟩ := bind_some e
  obtain ⟨y, e2, g2⟩ := bind_some g1
  obtain ⟨l', e3, g3⟩ := bind_some g2
  obtain ⟨x', e4, g4⟩ := bind_some g3
  unfold cat? at e3
  split at e3
  · rename_i hl
    cases e3
    obtain ⟨cl, d0, eb, c1, c2, c3⟩ := hb x l e1
    have ex' := c3 _ _ e4
    obtain ⟨v, F, a1, a2, a3, wr⟩ := st.writeL h
    have dn1 := Dl.of a2
    rw [eb] at dn1
    obtain ⟨a, dx, fs, F', rfl, ⟨w0, vs, F0, F2, rfl, z0, ⟨w1, vs2, Fl, Fn, rfl, z2, ⟨rfl, rfl⟩, _, rfl⟩, z3, rfl⟩, d2, rfl⟩ := dn1
    rw [un_nil] at *
    obtain ⟨b, xs, F3, rfl, y1, y2, rfl⟩ := z2
    have na := un_none.mp d2
    have hHa : H a = some (.ins (p.cl cl) dx [(f0, w0), (f1, .ref b)]) := a3 _ _ upd_same
    have ab : a ≠ b := fun c => by subst c; have := na.2; rw [upd_same] at this; cases this
    have hHb : H b = some (.lst xs) := a3 _ _ (by rw [upd_ne (Ne.symm ab)]; exact same_un2 z3 _ _ upd_same)
    have F0b : F0 b = none := by
      cases zz : F0 b with
      | none => rfl
      | some o => have := z3 b o zz; rw [upd_same] at this; cases this
    refine ⟨.ref a, a1, a, _, dx, _, .ref b, rfl, hHa, c1, c2, (lk1 hne).trans lk0, .inl ⟨rfl, _, .of hHb⟩, ?_⟩
    refine he y e2 G0 H0 σ G H st _ fun u G1 H1 g r1 => ?_
    obtain ⟨b', zs, rfl, r2, r3⟩ := r1
    have ll := y1.length
    rw [List.length_map] at ll
    have lz := r3.length
    rw [List.length_map] at lz
    refine ⟨b, b', xs, zs, rfl, rfl, g.h _ _ hHb, g.s _ _ r2, Nat.le_trans (show xs.length + zs.length ≤ 100000 by omega) (by decide), ?_⟩
    obtain ⟨w1, w2, w3⟩ := wr G1 H1 g
    have es : σ = σ.set i (some (.ref a)) := by
      obtain ⟨hi, hh⟩ := List.getElem?_eq_some_iff.mp a1
      rw [← hh, List.set_getElem_self]
    have sub0 : ∀ c o, un F0 (upd F3 b (.lst (xs ++ zs))) c = some o → c ≠ b → un F0 (upd F3 b (.lst xs)) c = some o := fun c o z n => by
      rcases un_some z with z | z
      · exact same_un1 _ _ z
      · rw [upd_ne n] at z
        exact same_un2 z3 _ _ (by rw [upd_ne n]; exact z)
    have na' : un F0 (upd F3 b (.lst (xs ++ zs))) a = none := un_none.mpr ⟨na.1, by have := na.2; rw [upd_ne ab] at this ⊢; exact this⟩
    have st2 := w3 (fzr (enc x')) (.ref a) (upd (un F0 (upd F3 b (.lst (xs ++ zs)))) a (.ins (p.cl cl) dx [(f0, w0), (f1, .ref b)])) (upd H1 b (.lst (xs ++ zs))) ⟨fun c o z => ?_, fun c q1 q2 => ?_, fun c o q1 q2 => ?_⟩ fun G' sg dj => ?_
    · rw [← es] at st2
      obtain ⟨G', sg, st3⟩ := st2.fz (by
        have hi := (List.getElem?_eq_some_iff.mp h).1
        rw [List.getElem?_set_self hi])
      rw [List.set_set] at st3
      exact k x' r g4 G0 H0 σ G' _ st3 D (Po.mono (g.g.trans sg) q)
    · by_cases ca : c = a
      · subst ca
        rw [upd_same] at z; cases z
        rw [upd_ne ab]; exact g.h _ _ hHa
      · rw [upd_ne ca] at z
        by_cases cb : c = b
        · subst cb
          rcases un_some z with z | z
          · rw [F0b] at z; cases z
          · rw [upd_same] at z ⊢; exact z
        · rw [upd_ne cb]
          exact g.h _ _ (a3 c o (by rw [upd_ne ca]; exact sub0 c o z cb))
    · have cb : c ≠ b := fun cb => by
        subst cb
        rw [upd_ne (Ne.symm ab)] at q1
        have := (un_none.mp q1).2
        rw [upd_same] at this; cases this
      rw [upd_ne cb]
    · exfalso
      have ca : c ≠ a := fun ca => by subst ca; rw [upd_same] at q2; cases q2
      rw [upd_ne ca] at q1 q2
      by_cases cb : c = b
      · subst cb
        have := (un_none.mp q2).2
        rw [upd_same] at this; cases this
      · rw [sub0 c o q1 cb] at q2; cases q2
    · -- all of it is known
      rw [ex']
      have sF : ∀ c o, c ≠ b → un F0 (upd F3 b (.lst xs)) c = some o → upd (un F0 (upd F3 b (.lst (xs ++ zs)))) a (.ins (p.cl cl) dx [(f0, w0), (f1, .ref b)]) c = some o := fun c o n z => by
        have ca : c ≠ a := fun ca => by subst ca; rw [d2] at z; cases z
        rw [upd_ne ca]
        rcases un_some z with z | z
        · exact same_un1 _ _ z
        · rw [upd_ne n] at z
          have : F0 c = none := by
            cases zz : F0 c with
            | none => rfl
            | some u =>
              have := z3 c u zz
              rw [upd_ne n, z] at this; cases this
          unfold un
          rw [this]
          show upd F3 b (.lst (xs ++ zs)) c = some o
          rw [upd_ne n]; exact z
      have sG : Same G1 (un G' (upd (un F0 (upd F3 b (.lst (xs ++ zs)))) a (.ins (p.cl cl) dx [(f0, w0), (f1, .ref b)]))) := sg.trans same_un1
      have dj' := dj.symm
      have dF0 : Dj F0 G1 := fun c o z => (w2 c o (by
        have ca : c ≠ a := fun ca => by subst ca; rw [na.1] at z; cases z
        rw [upd_ne ca]; exact same_un1 _ _ z)).1
      have dF3 : Dj F3 G1 := fun c o z => (w2 c o (by
        have cb : c ≠ b := fun cb => by subst cb; rw [y2] at z; cases z
        have ca : c ≠ a := fun ca => by subst ca; have := na.2; rw [upd_ne ab, z] at this; cases this
        rw [upd_ne ca]; exact same_un2 z3 _ _ (by rw [upd_ne cb]; exact z))).1
      have k0 : Same (un F0 G1) (un G' (upd (un F0 (upd F3 b (.lst (xs ++ zs)))) a (.ins (p.cl cl) dx [(f0, w0), (f1, .ref b)]))) := un_same (fun c o z => same_un2 dj' _ _ (sF c o (fun cb => by subst cb; rw [F0b] at z; cases z) (same_un1 _ _ z))) sG
      have k3 : Same (un F3 G1) (un G' (upd (un F0 (upd F3 b (.lst (xs ++ zs)))) a (.ins (p.cl cl) dx [(f0, w0), (f1, .ref b)]))) := un_same (fun c o z => by
        have cb : c ≠ b := fun cb => by subst cb; rw [y2] at z; cases z
        exact same_un2 dj' _ _ (sF c o cb (same_un2 z3 _ _ (by rw [upd_ne cb]; exact z)))) sG
      refine ⟨a, dx, _, rfl, same_un2 dj' _ _ upd_same, w0, _, rfl, Rp.mono k0 _ (Dn.rp _ dF0 (Dn.mono g.g _ z0)), .ref b, _, rfl, ⟨b, xs ++ zs, rfl, same_un2 dj' _ _ ?_, ?_⟩, rfl⟩
      · rw [upd_ne (Ne.symm ab)]
        unfold un
        rw [F0b]
        exact upd_same
      · rw [List.map_append]
        exact (RpA.mono k3 _ (DnA.rp _ dF3 (DnA.mono g.g _ y1))).append (RpA.mono sG _ r3)
  · cases e3
end
section
variable {X : Cx} {e : Expr} {es : List Expr} {t : TA}
theorem xe_extend (K) {apos cpos : Pos} {o : Expr} {to : TE} (ho : PE X o to) (ha : PA X (e :: es) t) (hbase : attributeBase o "extend" X.env (eval o X.env) = eval o X.env := by rfl)
    (hfew : ((backTo cpos (starEach (e :: es) X.env)).all (fun x => !x.1) && (backToKw cpos (keywordEach [] X.env)).all (fun x => x.1.isSome) && decide ((e :: es).length + ([] : List Keyword).length + (if ([] : List Keyword).isEmpty then 0 else 1) < 30)) = true := by rfl)
    (hline : (apos.endLine == cpos.line) = true := by rfl) (hs : starEach (e :: es) X.env = (false, eval e X.env) :: starEach es X.env := by rfl) (hplain : (backTo cpos (starEach es X.env)).any (·.1) = false := by rfl) (hK : X.K = K := by rfl) :
    PE X (.Call (.Attribute o "extend" apos) (e :: es) [] cpos) (tBM K "list" rExtend to t) := by
  subst hK
  exact pe_bm PySem.F.plainAttrs_list PySem.F.slot_list_extend PySem.F.type_list_extend mt_extend ho ha hbase hfew hline hs hplain
end
end PU

set_option Elab.async false
set_option maxRecDepth 100000
set_option linter.all false
/-! PU26: .stay where there is no Least. -/
namespace PU
open PySem L2
open Enc
def Ans.stayR? : Ans → Option (List Int)
  | .round s _ => some s
  | _ => none
section
variable {p : Pm} {env : List Sl} {te : TE} {i : Nat} {α : Type} [Enc α] {x : α} {g : Option Ans} {put : Ans → Option α}
theorem ev_stayR {m : Option Ans} (h : Ev p false te env m) (hc : Cls p.K (p.cl 5)) (hn : NoAttr p.K (p.cl 5) "stay") : Ev p false (tFld p.K te "stay") env (m.bind fun x => Ans.stayR? x) := ev_fld (get := Ans.stayR?) h fun x y e => by
  cases x <;> cases e
  exact ⟨5, _, rfl, rfl, hc, hn⟩
theorem lens_stayR (L : Lens p env te i x g put) (hc : Cls p.K (p.cl 5)) (hn : NoAttr p.K (p.cl 5) "stay") : Lens p env (tFld p.K te "stay") i x (g.bind Ans.stayR?) (fun c => g.bind fun b => (Ans.setStay? b c).bind put) :=
  lens_f0 L fun b c e => by
    cases b <;> cases e
    exact ⟨5, "papers", _, rfl, hc, hn, fun c' b' e' => by cases e'; rfl⟩
end
end PU

set_option Elab.async false
set_option maxRecDepth 100000
set_option linter.all false
/-! PU27: list(zip(a, b)) of two lists. -/
namespace PU
open PySem PySem.Spec PyProof.Rows L2
open PySem.W (kdl_size)
/-- a zip while a list is filled at S -/
def ZSt (h : Heap) (z TI TO i1 i2 l1 l2 S : Addr) (xs ys : Array Value) (i : Nat) : Prop :=
  IsPair h TI (.ref i1) (.ref i2) ∧ h.IsListIter i1 l1 i ∧ h.IsListIter i2 l2 i ∧ h.IsList l1 xs ∧ h.IsList l2 ys ∧
    ((IsZip h z TI TO .none ∧ ∃ a b, IsPair h TO a b) ∨ ∃ T f oT, IsZipHeld h z TI TO T f ∧ h.get? T = some oT ∧ T ≠ z ∧ T ≠ i1 ∧ T ≠ i2 ∧ T ≠ S)
structure ZOff (z TI TO i1 i2 l1 l2 S : Addr) : Prop where
  z : S ≠ z
  TI : S ≠ TI
  TO : S ≠ TO
  i1 : S ≠ i1
  i2 : S ≠ i2
  l1 : S ≠ l1
  l2 : S ≠ l2
theorem ZSt.keep {h h' : Heap} {z TI TO i1 i2 l1 l2 S : Addr} {xs ys : Array Value} {i : Nat} (x : ZSt h z TI TO i1 i2 l1 l2 S xs ys i) (O : ZOff z TI TO i1 i2 l1 l2 S) (hk : ∀ b o, b ≠ S → h.get? b = some o → h'.get? b = some o) : ZSt h' z TI TO i1 i2 l1 l2 S xs ys i := by
  obtain ⟨hTI, h1, h2, hl1, hl2, hz⟩ := x
  refine ⟨hk _ _ O.TI.symm hTI, h1.at fun o e => hk _ o O.i1.symm e, h2.at fun o e => hk _ o O.i2.symm e, hl1.at fun o e => hk _ o O.l1.symm e, hl2.at fun o e => hk _ o O.l2.symm e, ?_⟩
  rcases hz with ⟨hz, a, b, hTO⟩ | ⟨T, f, oT, hz, hT, r1, r2, r3, r4⟩
  · exact .inl ⟨hk _ _ O.z.symm hz, a, b, hk _ _ O.TO.symm hTO⟩
  · exact .inr ⟨T, f, oT, hk _ _ O.z.symm hz, hk _ _ r4 hT, r1, r2, r3, r4⟩
section
variable {prog : Program} {w : World} {A : Around} {E : Value → Shared → Prop} {s : Shared} {z TI TO i1 i2 l1 l2 S : Addr} {xs ys : Array Value}
theorem z_item (D : ZipApart z TI TO i1 i2 l1 l2) {i : Nat} {Q : Option Value → Shared → Prop} (hi : i < min xs.size ys.size) (st : ZSt s.heap z TI TO i1 i2 l1 l2 S xs ys i) (hds : S < s.heap.objs.size)
    (hQ : ∀ h' x y, xs[i]? = some x → ys[i]? = some y → ZSt h' z TI TO i1 i2 l1 l2 S xs ys (i + 1) → IsPair h' s.heap.objs.size x y → h'.objs.size = s.heap.objs.size + 1 → (∀ b o, b ≠ z → b ≠ TO → b ≠ i1 → b ≠ i2 → s.heap.get? b = some o → h'.get? b = some o) → Q (some (.ref s.heap.objs.size)) { s with heap := h' }) :
    wpAny (model prog w) A (pyNext (.ref z)) Q E s := by
  obtain ⟨hTI, h1, h2, hl1, hl2, hz⟩ := st
  have hix : i < xs.size := Nat.lt_of_lt_of_le hi (Nat.min_le_left ..)
  have hiy : i < ys.size := Nat.lt_of_lt_of_le hi (Nat.min_le_right ..)
  have ex := Array.getElem?_eq_getElem hix
  have ey := Array.getElem?_eq_getElem hiy
  have lt : ∀ {c o}, s.heap.get? c = some o → s.heap.objs.size ≠ c := fun e => Nat.ne_of_gt (Heap.lt_size e)
  have n1 : s.heap.objs.size ≠ i1 := let ⟨_, e, _⟩ := h1; lt e
  have n2 : s.heap.objs.size ≠ i2 := let ⟨_, e, _⟩ := h2; lt e
  rcases hz with ⟨hz, a, b, hTO⟩ | ⟨T, f, oT, hz, hT, r1, r2, r3, r4⟩
  · refine wpAny_pyNext_zip_item D hz hTI hTO h1 h2 hl1 hl2 ex ey fun h' a1 a2 a3 a4 a5 a6 hk => ?_
    exact hQ h' _ _ ex ey ⟨hk _ _ D.TIz D.TITO D.TIi1 D.TIi2 hTI, a3, a4, hl1.at fun o e => hk _ o D.l1z D.l1TO D.l1i1 D.l1i2 e, hl2.at fun o e => hk _ o D.l2z D.l2TO D.l2i1 D.l2i2 e,
        .inr ⟨s.heap.objs.size, false, _, a1, a5, lt hz, n1, n2, Nat.ne_of_gt hds⟩⟩ a5 a6 fun c o c1 c2 c3 c4 e => hk c o c1 c2 c3 c4 e
  · refine wpAny_pyNext_zip_item_held D hz hT hTI h1 h2 hl1 hl2 ex ey fun h' a1 a3 a4 a5 a6 hk => ?_
    exact hQ h' _ _ ex ey ⟨hk _ _ D.TIz D.TIi1 D.TIi2 hTI, a3, a4, hl1.at fun o e => hk _ o D.l1z D.l1i1 D.l1i2 e, hl2.at fun o e => hk _ o D.l2z D.l2i1 D.l2i2 e,
        .inr ⟨T, true, oT, a1, hk _ _ r1 r2 r3 hT, r1, r2, r3, r4⟩⟩ a5 a6 fun c o c1 c2 c3 c4 e => hk c o c1 c3 c4 e
theorem z_done (hA : A.handled = none) (D : ZipApart z TI TO i1 i2 l1 l2) {Q : Option Value → Shared → Prop} (st : ZSt s.heap z TI TO i1 i2 l1 l2 S xs ys (min xs.size ys.size))
    (hQ : ∀ h', (∀ b o, b ≠ z → b ≠ TO → b ≠ i1 → b ≠ i2 → s.heap.get? b = some o → h'.get? b = some o) → Q none { s with heap := h' }) : wpAny (model prog w) A (pyNext (.ref z)) Q E s := by
  obtain ⟨hTI, h1, h2, hl1, hl2, hz⟩ := st
  have hend : xs[min xs.size ys.size]? = none ∨ ys[min xs.size ys.size]? = none := by
    rcases Nat.le_total xs.size ys.size with h | h
    · exact .inl (Array.getElem?_eq_none (by rw [Nat.min_eq_left h]; exact Nat.le_refl _))
    · exact .inr (Array.getElem?_eq_none (by rw [Nat.min_eq_right h]; exact Nat.le_refl _))
  rcases hz with ⟨hz, a, b, hTO⟩ | ⟨T, f, oT, hz, hT, r1, r2, r3, r4⟩
  · exact wpAny_pyNext_zip_end hA D hz hTI hTO h1 h2 hl1 hl2 hend fun h' hk => hQ h' hk
  · exact wpAny_pyNext_zip_end_held hA D hz hT hTI h1 h2 hl1 hl2 hend fun h' hk => hQ h' fun c o c1 c2 c3 c4 e => hk c o c1 c3 c4 e
/-- the pairs laid -/
structure ZG (xs ys : Array Value) (lo : Addr) (h : Heap) (as : List Addr) : Prop where
  rise : as.Pairwise (· < ·)
  above : ∀ a ∈ as, lo < a
  pairs : ∀ (j : Nat) (a : Addr), as[j]? = some a → ∃ x y, xs[j]? = some x ∧ ys[j]? = some y ∧ IsPair h a x y
theorem ZG.there {lo : Addr} {h : Heap} {as : List Addr} (g : ZG xs ys lo h as) {a : Addr} (ha : a ∈ as) : a < h.objs.size := by
  obtain ⟨j, hj⟩ := List.mem_iff_getElem?.mp ha
  obtain ⟨_, _, _, _, e⟩ := g.pairs j a hj
  exact Heap.lt_size e
theorem z_loop {R : Result → Shared → Prop} (hh : A.handled = none) (D : ZipApart z TI TO i1 i2 l1 l2) (O : ZOff z TI TO i1 i2 l1 l2 S) (lz : z < S) (lTO : TO < S) (li1 : i1 < S) (li2 : i2 < S) (hn : min xs.size ys.size ≤ sizeLine) (res : Value) {h₁ : Heap}
    (hR : ∀ h' tk acc c as, (∀ b o, b ≠ S → b ≠ z → b ≠ TO → b ≠ i1 → b ≠ i2 → h₁.get? b = some o → h'.get? b = some o) → h'.get? S = some { cls := .type "list", dict := none, data := .seq acc c, slots := #[] } → as.length = min xs.size ys.size → ZG xs ys S h' as →
      acc.toList = as.map Value.ref → R (.ok (.ret res)) { s with heap := h', toks := tk }) :
    ∀ (k i : Nat) (h : Heap) (tk c : Nat) (acc : Array Value) (as : List Addr), min xs.size ys.size - i = k → i ≤ min xs.size ys.size → ZSt h z TI TO i1 i2 l1 l2 S xs ys i → (∀ b o, b ≠ S → b ≠ z → b ≠ TO → b ≠ i1 → b ≠ i2 → h₁.get? b = some o → h.get? b = some o) →
      h.get? S = some { cls := .type "list", dict := none, data := .seq acc c, slots := #[] } → acc.toList = as.map Value.ref → as.length = i → ZG xs ys S h as →
      codeAny (model prog w) A (.builtin "list.extend.loop" ⟨[.ref S, .ref z, res], []⟩) R { s with heap := h, toks := tk } := by
  intro k
  induction k with
  | zero =>
    intro i h tk c acc as hk hi hst hkeep hS hacc hal hG
    have hin : i = min xs.size ys.size := by omega
    subst hin
    refine codeAny_builtin PySem.F.entry_extend_loop ?_
    rw [Around.under_plainId PySem.F.plain_extend_loop _]
    show wpAny _ A.in1 (pyNext (.ref z) >>= _) _ _ _
    refine wpAny_bind (z_done (s := { s with heap := h, toks := tk }) (A := A.in1) hh D hst fun h' he => ?_)
    refine wpAny_pure (hR h' tk acc c as (fun b o e0 e1 e2 e3 e4 e => he b o e1 e2 e3 e4 (hkeep b o e0 e1 e2 e3 e4 e)) (he S _ O.z O.TO O.i1 O.i2 hS) hal ⟨hG.rise, hG.above, fun j a hj => ?_⟩ hacc)
    obtain ⟨x, y, e1, e2, e3⟩ := hG.pairs j a hj
    have hb := hG.above a (List.mem_of_getElem? hj)
    exact ⟨x, y, e1, e2, he a _ (Nat.ne_of_gt (Nat.lt_trans lz hb)) (Nat.ne_of_gt (Nat.lt_trans lTO hb)) (Nat.ne_of_gt (Nat.lt_trans li1 hb)) (Nat.ne_of_gt (Nat.lt_trans li2 hb)) e3⟩
  | succ k ih =>
    intro i h tk c acc as hk hi hst hkeep hS hacc hal hG
    have hlt : i < min xs.size ys.size := by omega
    have hsz : acc.size = i := by rw [← Array.length_toList, hacc, List.length_map, hal]
    refine codeAny_builtin PySem.F.entry_extend_loop ?_
    rw [Around.under_plainId PySem.F.plain_extend_loop _]
    show wpAny _ A.in1 (pyNext (.ref z) >>= _) _ _ _
    refine wpAny_bind (z_item (s := { s with heap := h, toks := tk }) (S := S) D hlt hst (Heap.lt_size hS) fun h' x y hx hy hst' ht hz hkp => ?_)
    dsimp only at ht hz hkp ⊢
    have hS' := hkp S _ O.z O.TO O.i1 O.i2 hS
    have up : ∀ b o, b ≠ S → h'.get? b = some o → (h'.update S (Obj.mapSeq (·.push (Value.ref h.objs.size)))).get? b = some o := fun b o hb e => (Heap.get?_update_other _ _ (Ne.symm hb)).trans e
    have hSl : S < h.objs.size := Heap.lt_size hS
    show wpAny _ A.in1 (updateSeq S (·.push (Value.ref h.objs.size)) >>= _) _ _ _
    refine wpAny_bind ?_
    refine wpAny_updateSeq hS' rfl (wpAny_pure ⟨plainId_quiet PySem.F.plain_extend_loop _, ih (i + 1) _ tk _ (acc.push (Value.ref h.objs.size)) (as ++ [h.objs.size]) (by omega) hlt (hst'.keep O up)
      (fun b o e0 e1 e2 e3 e4 e => up b o e0 (hkp b o e1 e2 e3 e4 (hkeep b o e0 e1 e2 e3 e4 e))) (Heap.get?_update_self _ hS' rfl) (by rw [Array.toList_push, hacc, List.map_append]; rfl) (by rw [List.length_append, hal]; rfl) ⟨?_, ?_, ?_⟩⟩) (by rw [hsz]; omega) (by show (acc.push (Value.ref h.objs.size)).size ≤ sizeLine + 1; rw [Array.size_push, hsz]; omega)
    · refine List.pairwise_append.mpr ⟨hG.rise, List.pairwise_singleton _ _, fun a ha b hb => ?_⟩
      rw [List.mem_singleton.mp hb]
      exact hG.there ha
    · intro a ha
      rcases List.mem_append.mp ha with ha | ha
      · exact hG.above a ha
      · rw [List.mem_singleton.mp ha]; exact hSl
    · intro j b hj
      rcases Nat.lt_trichotomy j as.length with h1 | h1 | h1
      · rw [List.getElem?_append_left h1] at hj
        obtain ⟨x', y', e1, e2, e3⟩ := hG.pairs j b hj
        have hb := hG.above b (List.mem_of_getElem? hj)
        exact ⟨x', y', e1, e2, up b _ (Nat.ne_of_gt hb) (hkp b _ (Nat.ne_of_gt (Nat.lt_trans lz hb)) (Nat.ne_of_gt (Nat.lt_trans lTO hb)) (Nat.ne_of_gt (Nat.lt_trans li1 hb)) (Nat.ne_of_gt (Nat.lt_trans li2 hb)) e3)⟩
      · subst h1
        have hb : h.objs.size = b := by simpa using hj
        subst hb
        exact ⟨x, y, by rw [hal]; exact hx, by rw [hal]; exact hy, up _ _ (Nat.ne_of_gt hSl) ht⟩
      · have hnone : (as ++ [h.objs.size])[j]? = none := List.getElem?_eq_none (by rw [List.length_append, List.length_singleton]; omega)
        rw [hnone] at hj; cases hj
theorem zip_no_len : typeLookup (.type "zip") "__len__" = pure none := am_miss_of_fast (by decide +kernel)
theorem zip_no_hint : typeLookup (.type "zip") "__length_hint__" = pure none := am_miss_of_fast (by decide +kernel)
theorem hint_zip {r : Addr} (hT : s.TypeIs (.ref r) "zip") {Q : Bool → Shared → Prop} (h : Q true s) : wpAny (model prog w) A (Builtin.List.listLengthHint (.ref r)) Q E s := by
  unfold Builtin.List.listLengthHint
  refine wpAny_bind (wpAny_specialOf hT zip_no_len ?_)
  refine wpAny_ite_split (fun hab => absurd hab (by decide +kernel)) (fun _ => ?_)
  refine wpAny_ite_split (fun hab => absurd hab (by decide)) (fun _ => ?_)
  refine wpAny_bind (wpAny_specialOf hT zip_no_hint ?_)
  exact wpAny_pure h
theorem z_extend {R : Result → Shared → Prop} (hh : A.handled = none) (D : ZipApart z TI TO i1 i2 l1 l2) (O : ZOff z TI TO i1 i2 l1 l2 S) (lz : z < S) (lTO : TO < S) (li1 : i1 < S) (li2 : i2 < S) (hn : min xs.size ys.size ≤ sizeLine)
    (st : ZSt s.heap z TI TO i1 i2 l1 l2 S xs ys 0) (hz0 : IsZip s.heap z TI TO .none) (res : Value) (c₀ : Nat) (hS : s.heap.get? S = some { cls := .type "list", data := .seq #[] c₀ })
    (hR : ∀ h' tk acc c as, (∀ b o, b ≠ S → b ≠ z → b ≠ TO → b ≠ i1 → b ≠ i2 → s.heap.get? b = some o → h'.get? b = some o) → h'.get? S = some { cls := .type "list", dict := none, data := .seq acc c, slots := #[] } → as.length = min xs.size ys.size → ZG xs ys S h' as →
      acc.toList = as.map Value.ref → R (.ok (.ret res)) { s with heap := h', toks := tk }) :
    wpAny (model prog w) A.in1 (Builtin.List.listExtendWith (.ref S) (.ref z) res)
      (fun fin s' => match fin with | .done f => R (.ok f) s' | .again c' => c'.quiet = true ∧ codeAny (model prog w) A c' R s') (fun e s' => R (.error e) s') s := by
  have key : ∀ (h : Heap) (c₁ tk : Nat), (∀ b o, b ≠ S → s.heap.get? b = some o → h.get? b = some o) →
      h.get? S = some { cls := .type "list", data := .seq #[] c₁ } → codeAny (model prog w) A (.builtin "list.extend.loop" ⟨[.ref S, .ref z, res], []⟩) R { s with heap := h, toks := tk } := by
    intro h c₁ tk hk hS₁
    exact z_loop (s := s) (h₁ := s.heap) hh D O lz lTO li1 li2 hn res hR _ 0 h tk c₁ #[] [] (Nat.sub_zero _) (Nat.zero_le _) (st.keep O hk) (fun b o e0 _ _ _ _ e => hk b o e0 e) hS₁ rfl rfl
      ⟨List.Pairwise.nil, (fun _ ha => nomatch ha), (fun j a hj => by simp at hj)⟩
  have hT : s.TypeIs (.ref z) "zip" := ⟨_, hz0, rfl⟩
  unfold Builtin.List.listExtendWith
  refine wpAny_bind (wpAny_typeOf (T := "zip") hT ?_)
  have h1 : Builtin.List.listSameRef (.ref S) (.ref z) = false := by simp [Builtin.List.listSameRef, O.z]
  have h2 : (Value.type "zip" == Value.type "list") = false := by decide
  have h3 : (Value.type "zip" == Value.type "tuple") = false := by decide
  simp only [h1, h2, h3, Bool.or_false, Bool.false_eq_true, if_false]
  refine wpAny_bind (wpAny_pyIter_zip hz0 ?_)
  refine wpAny_bind (wpAny_holding (hint_zip hT ?_))
  refine wpAny_ite_split (fun _ => ?_) (fun _ => wpAny_pure ⟨plainId_quiet PySem.F.plain_extend_loop _, key _ c₀ _ (fun b o _ e => e) hS⟩)
  refine wpAny_bind (wpAny_rule ?_)
  refine wpAny_bind ?_
  show wpAny _ _ (updateSeq S (·.push .none) >>= fun _ => updateSeq S (·.pop)) _ _ _
  refine wpAny_bind (wpAny_updateSeq hS rfl ?_)
  have hS₂ := Heap.get?_update_self (Obj.mapSeq (·.push Value.none)) hS rfl
  refine wpAny_updateSeq (hz := by seq_fits) hS₂ rfl ?_
  have hS₃ := Heap.get?_update_self (Obj.mapSeq (·.pop)) hS₂ rfl
  refine wpAny_pure ⟨plainId_quiet PySem.F.plain_extend_loop _, key _ _ _ (fun b o hb e => ?_) hS₃⟩
  exact (Heap.get?_update_other _ _ (Ne.symm hb)).trans ((Heap.get?_update_other _ _ (Ne.symm hb)).trans e)
theorem z_init {R : Result → Shared → Prop} (hh : A.handled = none) (D : ZipApart z TI TO i1 i2 l1 l2) (O : ZOff z TI TO i1 i2 l1 l2 S) (lz : z < S) (lTO : TO < S) (li1 : i1 < S) (li2 : i2 < S) (hn : min xs.size ys.size ≤ sizeLine)
    (st : ZSt s.heap z TI TO i1 i2 l1 l2 S xs ys 0) (hz0 : IsZip s.heap z TI TO .none) (hS : s.heap.get? S = some { cls := .type "list", data := .seq #[] })
    (hR : ∀ h' tk acc c as, (∀ b o, b ≠ S → b ≠ z → b ≠ TO → b ≠ i1 → b ≠ i2 → s.heap.get? b = some o → h'.get? b = some o) → h'.get? S = some { cls := .type "list", dict := none, data := .seq acc c, slots := #[] } → as.length = min xs.size ys.size → ZG xs ys S h' as →
      acc.toList = as.map Value.ref → R (.ok (.ret .none)) { s with heap := h', toks := tk }) :
    wpAny (model prog w) A.in1 (Builtin.«list.__init__» ⟨[.ref S, .ref z], []⟩)
      (fun fin s' => match fin with | .done f => R (.ok f) s' | .again c' => c'.quiet = true ∧ codeAny (model prog w) A c' R s') (fun e s' => R (.error e) s') s := by
  show wpAny _ _ (do let old ← Builtin.List.listItems (.ref S); Builtin.List.listUpdate (.ref S) (fun _ => #[]); letGo old.toList.reverse; Builtin.List.listExtendWith (.ref S) (.ref z) .none) _ _ s
  refine wpAny_bind ?_
  unfold Builtin.List.listItems
  refine wpAny_bind (wpAny_seqItems hS rfl (wpAny_pure ?_))
  show wpAny _ _ (updateSeq S (fun _ => #[]) >>= fun _ => letGo (#[] : Array Value).toList.reverse >>= fun _ => Builtin.List.listExtendWith (.ref S) (.ref z) .none) _ _ s
  refine wpAny_bind (wpAny_updateSeq hS rfl ?_)
  have hS₂ := Heap.get?_update_self (Obj.mapSeq (fun _ => (#[] : Array Value))) hS rfl
  have oth : ∀ b o, b ≠ S → s.heap.get? b = some o → (s.heap.update S (Obj.mapSeq (fun _ => (#[] : Array Value)))).get? b = some o :=
    fun b o hb e => (Heap.get?_update_other _ _ (Ne.symm hb)).trans e
  refine wpAny_bind (wpAny_letGo ?_)
  refine z_extend hh D O lz lTO li1 li2 hn (st.keep O oth) (oth _ _ O.z.symm hz0) .none _ hS₂ fun h' tk acc c as hk hS' hl hG hacc => ?_
  exact hR h' tk acc c as (fun b o e0 e1 e2 e3 e4 e => hk b o e0 e1 e2 e3 e4 (oth b o e0 e)) hS' hl hG hacc
theorem z_call {Q : Value → Shared → Prop} (hh : A.handled = none) (D : ZipApart z TI TO i1 i2 l1 l2) (hz0 : IsZip s.heap z TI TO .none) (hTI : IsPair s.heap TI (.ref i1) (.ref i2)) (hTO : ∃ a b, IsPair s.heap TO a b) (h1 : s.heap.IsListIter i1 l1 0) (h2 : s.heap.IsListIter i2 l2 0)
    (hl1 : s.heap.IsList l1 xs) (hl2 : s.heap.IsList l2 ys) (hn : min xs.size ys.size ≤ sizeLine)
    (hQ : ∀ h' tk acc c as, (∀ b o, b ≠ z → b ≠ TO → b ≠ i1 → b ≠ i2 → s.heap.get? b = some o → h'.get? b = some o) → h'.get? s.heap.objs.size = some { cls := .type "list", dict := none, data := .seq acc c, slots := #[] } → as.length = min xs.size ys.size → ZG xs ys s.heap.objs.size h' as →
      acc.toList = as.map Value.ref → Q (.ref s.heap.objs.size) { s with heap := h', toks := tk }) :
    wpAny (model prog w) A (call (.type "list") [.ref z]) Q E s := by
  refine callType_codes (Q₁ := fun obj s₁ => obj = .ref s.heap.objs.size ∧ s₁ = { s with heap := s.heap.push { cls := .type "list", data := .seq #[] } }) PySem.F.called_list (PySem.F.typeCall_list_1 _) PySem.F.entry_list_init
    (code_list_new _ ⟨rfl, rfl⟩) fun obj s₁ h₁ => ?_
  obtain ⟨rfl, rfl⟩ := h₁
  have hS : (s.heap.push { cls := .type "list", data := .seq #[] }).get? s.heap.objs.size = some { cls := .type "list", data := .seq #[] } := Heap.get?_push_size _ rfl
  have nz : z < s.heap.objs.size := Heap.lt_size hz0
  have nTI : TI < s.heap.objs.size := Heap.lt_size hTI
  have nTO : TO < s.heap.objs.size := let ⟨_, _, h⟩ := hTO; Heap.lt_size h
  have n1 : i1 < s.heap.objs.size := let ⟨_, h, _⟩ := h1; Heap.lt_size h
  have n2 : i2 < s.heap.objs.size := let ⟨_, h, _⟩ := h2; Heap.lt_size h
  have m1 : l1 < s.heap.objs.size := let ⟨_, h, _⟩ := hl1; Heap.lt_size h
  have m2 : l2 < s.heap.objs.size := let ⟨_, h, _⟩ := hl2; Heap.lt_size h
  have pu : ∀ b o, s.heap.get? b = some o → (s.heap.push { cls := .type "list", data := .seq #[] }).get? b = some o := fun b o e => Heap.get?_push_of_some _ e
  refine ⟨⟨_, hS, rfl⟩, PySem.F.args_list_init_2 _ _, z_init (A := A.in1) (S := s.heap.objs.size) (s := { s with heap := s.heap.push { cls := .type "list", data := .seq #[] } }) hh D ⟨Nat.ne_of_gt nz, Nat.ne_of_gt nTI, Nat.ne_of_gt nTO, Nat.ne_of_gt n1, Nat.ne_of_gt n2, Nat.ne_of_gt m1, Nat.ne_of_gt m2⟩ nz nTO n1 n2 hn
    ⟨pu _ _ hTI, h1.at fun o e => pu _ o e, h2.at fun o e => pu _ o e, hl1.at fun o e => pu _ o e, hl2.at fun o e => pu _ o e, .inl ⟨pu _ _ hz0, let ⟨a, b, h⟩ := hTO; ⟨a, b, pu _ _ h⟩⟩⟩ (pu _ _ hz0) hS (fun h' tk acc c as hk hS' hl hG hacc => ?_)⟩
  exact ⟨rfl, hQ h' tk acc c as (fun b o e1 e2 e3 e4 e => hk b o (Nat.ne_of_lt (Heap.lt_size e)) e1 e2 e3 e4 (pu b o e)) hS' hl hG hacc⟩
end

/-- pairs laid at their addresses -/
def putP : Hp → List Addr → List (V × V) → Hp
  | H, a :: as, p :: ps => putP (upd H a (.tup [p.1, p.2])) as ps
  | H, _, _ => H
theorem putP_off {b : Addr} : ∀ (as : List Addr) (ps : List (V × V)) (H : Hp), b ∉ as → putP H as ps b = H b
  | [], _, _, _ => rfl
  | _ :: _, [], _, _ => rfl
  | a :: as, p :: ps, H, h => by
    show putP (upd H a (.tup [p.1, p.2])) as ps b = H b
    rw [putP_off as ps _ (fun z => h (List.mem_cons_of_mem _ z)), upd_ne (fun z => h (by rw [z]; exact List.mem_cons_self))]
theorem putP_at : ∀ (as : List Addr) (ps : List (V × V)) (H : Hp), as.length = ps.length → as.Nodup → Paired (fun (t : Addr) (p : V × V) => putP H as ps t = some (.tup [p.1, p.2])) as ps
  | [], [], _, _, _ => .nil
  | [], _ :: _, _, h, _ => by cases h
  | _ :: _, [], _, h, _ => by cases h
  | a :: as, p :: ps, H, h, hn => by
    have hn' := List.nodup_cons.mp hn
    have ih := putP_at as ps (upd H a (.tup [p.1, p.2])) (Nat.succ.inj h) hn'.2
    refine .cons ?_ ih
    show putP (upd H a (.tup [p.1, p.2])) as ps a = some (.tup [p.1, p.2])
    rw [putP_off as ps _ hn'.1, upd_same]
def tListZip (K : PySem.W.Frag) (ta : TA) : TE := fun σ H Q => ta σ H fun vs H1 => ∃ a b xs ys, vs = [.ref a, .ref b] ∧ SqL K H1 a xs ∧ SqL K H1 b ys ∧ xs.length ≤ sizeLine ∧ ∀ (p : Addr) (ts : List Addr), ts.length = (xs.zip ys).length → ts.Nodup → (∀ t ∈ ts, H1 t = none) → H1 p = none → p ∉ ts → Q (.ref p) (upd (putP H1 ts (xs.zip ys)) p (.lst (ts.map V.ref)))
section
variable {X : Cx}
theorem zl_laid {pins : List (Addr × Obj)} {σ : L2.St} {H : Hp} {s : Shared} {h' : Heap} {tk : Nat} {xs ys : List V} {its its2 : List Value} {acc : Array Value} {c : Nat} {as : List Addr} {S : Addr} (I : Inv X pins σ H s) (hz : xs.length ≤ sizeLine) (rv : Vals xs its) (rv2 : Vals ys its2)
    (hk : ∀ b o, s.heap.get? b = some o → h'.get? b = some o) (hSs : s.heap.objs.size ≤ S) (hS : h'.get? S = some { cls := .type "list", dict := none, data := .seq acc c, slots := #[] }) (hl : as.length = min its.toArray.size its2.toArray.size) (hG : ZG its.toArray its2.toArray S h' as) (hacc : acc.toList = as.map Value.ref) :
    as.length = (xs.zip ys).length ∧ as.Nodup ∧ (∀ t ∈ as, H t = none) ∧ H S = none ∧ S ∉ as ∧ Inv X pins σ (upd (putP H as (xs.zip ys)) S (.lst (as.map V.ref))) { s with heap := h', toks := tk } := by
  have l1 := rv.length
  have l2 := rv2.length
  have ll : as.length = (xs.zip ys).length := by
    rw [hl, List.length_zip]
    simp only [List.size_toArray]
    omega
  have hSn : S ∉ as := fun z => Nat.lt_irrefl _ (hG.above _ z)
  have nd : as.Nodup := List.Pairwise.imp (fun {a b} (h : a < b) => Nat.ne_of_lt h) hG.rise
  have new : ∀ t ∈ as, H t = none := fun t ht => I.hok.fresh (Nat.le_of_lt (Nat.lt_of_le_of_lt hSs (hG.above t ht)))
  have newS : H S = none := I.hok.fresh hSs
  have atP := putP_at as (xs.zip ys) H ll nd
  have off : ∀ b, b ∉ as → b ≠ S → upd (putP H as (xs.zip ys)) S (.lst (as.map V.ref)) b = H b := fun b h1 h2 => by rw [upd_ne h2, putP_off as _ _ h1]
  have low : ∀ b o, s.heap.get? b = some o → b ∉ as ∧ b ≠ S := fun b o e => ⟨fun z => absurd (Heap.lt_size e) (Nat.not_lt.mpr (Nat.le_of_lt (Nat.lt_of_le_of_lt hSs (hG.above b z)))), Nat.ne_of_lt (Nat.lt_of_lt_of_le (Heap.lt_size e) hSs)⟩
  have kp : ∀ b u, H b = some u → upd (putP H as (xs.zip ys)) S (.lst (as.map V.ref)) b = some u := fun b u e => by
    rw [off b (fun z => by rw [new b z] at e; cases e) (fun z => by rw [z, newS] at e; cases e)]
    exact e
  refine ⟨ll, nd, new, newS, hSn, ?_⟩
  refine I.call' (ch := []) rfl ⟨fun b o q _ _ _ => hk b o q, fun b o q _ _ _ => ⟨o.slots, hk b o q⟩, fun b o q n _ => ?_, fun b o q _ => ⟨o, hk b o q⟩, fun b xs q => kp b _ q, fun b o u q => kp b _ q, fun b ps q => ⟨#[], by rw [kp b _ q]; simp⟩⟩ (fun b u q => ?_) I.bare fun b z => by simp at z
  · obtain ⟨z1, z2⟩ := low b o q
    rw [off b z1 z2]
    exact n
  · by_cases hb2 : b = S
    · rw [hb2] at q ⊢
      rw [upd_same] at q
      cases q
      refine ⟨by rw [List.length_map, ll, List.length_zip]; omega, acc.toList, c, by rw [hacc]; exact LiI.vals_refs as, ?_⟩
      rw [Array.toArray_toList]
      exact hS
    · by_cases hb : b ∈ as
      · rw [upd_ne hb2] at q
        obtain ⟨j, pk, e1, e2, e3⟩ := LiI.paired_ix atP hb
        rw [e3] at q
        cases q
        obtain ⟨u, v, f1, f2, f3⟩ := hG.pairs j b e1
        obtain ⟨g1, g2⟩ := List.getElem?_zip_eq_some.mp e2
        obtain ⟨u', hu, ru⟩ := rv.get g1
        obtain ⟨v', hv, rv'⟩ := rv2.get g2
        have eu : u' = u := by simpa [hu] using f1
        have ev : v' = v := by simpa [hv] using f2
        subst eu; subst ev
        exact ⟨by show 2 ≤ sizeLine; decide, [_, _], .cons ru (.cons rv' .nil), ⟨_, f3, rfl, _, rfl⟩⟩
      · rw [off b hb hb2] at q
        exact (I.hok b u q).stay (fun d v _ y => hk d v y) (fun d y => kp d _ y) fun d xs y => kp d _ y
/-- list(zip(e, e2)) -/
theorem pe_listZip {e e2 : Expr} {ta : TA} {p p2 cpos pos : Pos} (hc : X.calm = true) (ha : PA X [e, e2] ta) (hg : Gl X "list") (hm : X.mg "list" = none) (hg2 : Gl X "zip") (hm2 : X.mg "zip" = none) (hv : bootBuiltins "list" = some (.type "list"))
    (hs : starEach [.Call (.Name "zip" p2) [e, e2] [] cpos] X.env = (false, eval (.Call (.Name "zip" p2) [e, e2] [] cpos) X.env) :: starEach [] X.env := by rfl)
    (hs2 : starEach [e, e2] X.env = (false, eval e X.env) :: starEach [e2] X.env := by rfl) (hpl : (backTo cpos (starEach [e2] X.env)).any (·.1) = false := by rfl) :
    PE X (.Call (.Name "list" p) [.Call (.Name "zip" p2) [e, e2] [] cpos] [] pos) (tListZip X.K ta) := by
  refine ⟨fun pins s σ H Q I hq => ?_⟩
  refine wpAny_Call_Name_kw (ld_blt I hg hm hv ?_)
  refine PyProof.Rows.callWith_type1 ?_ hs rfl
  rw [hs]
  show wpAny _ _ (spliced ((false, eval (.Call (.Name "zip" p2) [e, e2] [] cpos) X.env) :: backTo pos (starEach [] X.env))) _ _ s
  refine Calls.spliced_cons ?_
  refine Call_ (ld_blt I hg2 hm2 PyProof.Rows.boot_zip (PyProof.Rows.callWith_type1 (thn (ha.run cpos pins s σ H _ I hq) fun us s1 ⟨vs, H1, I1, r1, q1⟩ => ?_) hs2 hpl))
  obtain ⟨a, b, xs, ys, ex, hqx, hqy, hz, q1⟩ := q1
  subst ex
  cases r1 with
  | cons r rr =>
    cases rr with
    | cons r' rr =>
      cases rr
      cases r
      cases r'
      obtain ⟨its, rv, p1, _⟩ := I1.list hqx
      obtain ⟨its2, rv2, p2, _⟩ := I1.list hqy
      refine call_zip_2 p1.isList p2.isList fun h' hz' hTI hTO h1 h2 hsz hk => ?_
      refine Calls.spliced_nil ?_
      have l1 := rv.length
      refine z_call (s := { s1 with heap := h' }) (xs := its.toArray) (ys := its2.toArray) (I1.ok.hd hc) (PySem.W.ktu_apart s1.heap.objs.size a b p1.lt p2.lt) hz' hTI ⟨_, _, hTO⟩ h1 h2 (p1.isList.at fun o e => hk _ o e) (p2.isList.at fun o e => hk _ o e) (by simp only [List.size_toArray]; omega) fun h'' tk acc c as hk2 hS hl hG hacc => ?_
      have hS0 : s1.heap.objs.size ≤ h'.objs.size := by rw [hsz]; exact Nat.le_add_right _ _
      obtain ⟨k1, k2, k3, k4, k5, J⟩ := zl_laid (tk := tk) I1 hz rv rv2 (fun b o e => hk2 b o (Nat.ne_of_lt (Nat.lt_of_lt_of_le (Heap.lt_size e) (Nat.le_add_right _ _))) (Nat.ne_of_lt (Nat.lt_of_lt_of_le (Heap.lt_size e) (Nat.le_add_right _ _))) (Nat.ne_of_lt (Heap.lt_size e)) (Nat.ne_of_lt (Nat.lt_of_lt_of_le (Heap.lt_size e) (Nat.le_add_right _ _))) (hk b o e)) hS0 hS hl hG hacc
      exact ⟨.ref _, _, J, rfl, q1 _ as k1 k2 k3 k4 k5⟩
end

section
variable {X : Cx}
theorem xe_listZip (K) {e e2 : Expr} {ta : TA} {p p2 cpos pos : Pos} (hc : X.calm = true) (hg : Gl X "list") (hm : X.mg "list" = none) (hg2 : Gl X "zip") (hm2 : X.mg "zip" = none) (ha : PA X [e, e2] ta)
    (hs : starEach [.Call (.Name "zip" p2) [e, e2] [] cpos] X.env = (false, eval (.Call (.Name "zip" p2) [e, e2] [] cpos) X.env) :: starEach [] X.env := by rfl)
    (hs2 : starEach [e, e2] X.env = (false, eval e X.env) :: starEach [e2] X.env := by rfl) (hpl : (backTo cpos (starEach [e2] X.env)).any (·.1) = false := by rfl) (hK : X.K = K := by rfl) :
    PE X (.Call (.Name "list" p) [.Call (.Name "zip" p2) [e, e2] [] cpos] [] pos) (tListZip K ta) := by
  subst hK; exact pe_listZip hc ha hg hm hg2 hm2 PyProof.Rows.boot_list hs hs2 hpl
end
def listZip? {α β : Type} (xs : List α) (ys : List β) : Option (List (α × β)) := if xs.length ≤ 100000 then some (List.zip xs ys) else none
section
open Enc
variable {p : Pm} {env : List Sl} {ta tb : TE} {α β : Type} [Enc α] [Enc β]
theorem gr_put : ∀ (as : List Addr) (ps : List (V × V)) {G H : Hp}, Same G H → (∀ a ∈ as, H a = none) → as.Nodup → Gr G (putP G as ps) H (putP H as ps)
  | [], _, _, _, s, _, _ => .refl s
  | _ :: _, [], _, _, s, _, _ => .refl s
  | a :: as, p :: ps, G, H, s, hf, hn => by
    have hn' := List.nodup_cons.mp hn
    refine (Gr.new s (hf a (List.mem_cons_self))).trans (gr_put as ps (upd_mono s) (fun b hb => ?_) hn'.2)
    rw [upd_ne (by rintro rfl; exact hn'.1 hb)]
    exact hf b (List.mem_cons_of_mem _ hb)
theorem rpA_put {xs : List α} {ys : List β} : ∀ {vs ws : List V} {G : Hp}, RpA p G (xs.map enc) vs → RpA p G (ys.map enc) ws → ∀ as : List Addr, as.length = (vs.zip ws).length → as.Nodup → (∀ a ∈ as, G a = none) →
    RpA p (putP G as (vs.zip ws)) ((List.zip xs ys).map enc) (as.map V.ref) := by
  induction xs generalizing ys with
  | nil =>
    intro vs ws G h1 h2 as hl hn hf
    have e : vs = [] := h1
    subst e
    have : as = [] := List.length_eq_zero_iff.mp (by simpa using hl)
    subst this
    exact rfl
  | cons x xs ih =>
    intro vs ws G h1 h2 as hl hn hf
    obtain ⟨v, vs, rfl, a1, a2⟩ := h1
    cases ys with
    | nil =>
      have e : ws = [] := h2
      subst e
      have : as = [] := List.length_eq_zero_iff.mp (by simpa using hl)
      subst this
      exact rfl
    | cons y ys =>
      obtain ⟨w, ws, rfl, b1, b2⟩ := h2
      cases as with
      | nil => simp at hl
      | cons a as =>
        have hn' := List.nodup_cons.mp hn
        have na : G a = none := hf a (List.mem_cons_self)
        have sm : Same G (upd G a (.tup [v, w])) := same_new na
        have hf' : ∀ b ∈ as, (upd G a (.tup [v, w])) b = none := fun b hb => by
          rw [upd_ne (by rintro rfl; exact hn'.1 hb)]
          exact hf b (List.mem_cons_of_mem _ hb)
        have l' : as.length = (vs.zip ws).length := by simpa using hl
        have k := ih (RpA.mono sm _ a2) (RpA.mono sm _ b2) as l' hn'.2 hf'
        have g : Same (upd G a (.tup [v, w])) (putP (upd G a (.tup [v, w])) as (vs.zip ws)) := (gr_put as (vs.zip ws) (.refl _) hf' hn'.2).g
        refine RpA.cons ?_ k
        exact ⟨a, [v, w], rfl, g _ _ upd_same, .cons (Rp.mono (sm.trans g) _ a1) (.cons (Rp.mono (sm.trans g) _ b1) .nil)⟩
theorem ev_listZip {ma : Option (List α)} {mb : Option (List β)} (ha : Ev p false ta env ma) (hb : Ev p false tb env mb) : Ev p true (tListZip p.K (tCons ta (tCons tb tNil))) env (ma.bind fun xs => mb.bind fun ys => listZip? xs ys) := fun z e G0 H0 σ G H s Q k => by
  obtain ⟨x, e1, e⟩ := bind_some e
  obtain ⟨y, e2, e⟩ := bind_some e
  unfold listZip? at e
  split at e
  · rename_i c
    cases e
    refine ha x e1 G0 H0 σ G H s _ fun v G1 H1 g1 r1 => hb y e2 G0 H0 σ G1 H1 (s.step g1) _ fun w G2 H2 g2 r2 => ?_
    obtain ⟨a, us, rfl, h1, h2⟩ := (Rp.mono g2.g _ r1 : Rp p G2 (.lst (x.map enc)) v)
    obtain ⟨b, ws, rfl, h3, h4⟩ := (r2 : Rp p G2 (.lst (y.map enc)) w)
    have l1 := h2.length
    rw [List.length_map] at l1
    refine ⟨a, b, us, ws, rfl, .of (g2.s _ _ h1), .of (g2.s _ _ h3), sz_of (by omega), fun q ts k1 k2 k3 k4 k5 => ?_⟩
    have fG : ∀ t ∈ ts, G2 t = none := fun t ht => g2.s.free (k3 t ht)
    have g3 := gr_put ts (us.zip ws) g2.s k3 k2
    have nq : putP H2 ts (us.zip ws) q = none := by rw [putP_off ts _ _ k5]; exact k4
    have r := rpA_put h2 h4 ts k1 k2 fG
    have g4 := (g1.trans g2).trans g3
    refine k _ _ _ (g4.trans (.own g3.s nq)) ⟨q, ts.map V.ref, (List.zip x y).map enc, rfl, rfl, g4.h.free nq, g3.s.free nq, upd_same, r⟩
  · cases e
end
end PU

set_option Elab.async false
set_option maxRecDepth 100000
set_option maxHeartbeats 4000000
set_option linter.all false
namespace Fw
open PySem L2 PU
open PU.Enc
def heights (v_order : List (Int)) (v_weights : List (Int)) : Option (List ((Int) × (Int))) :=
  (((some ([] : List ((Int) × (Int))))).bind fun (v_found_1 : List ((Int) × (Int))) => ((((((some v_order)).bind fun x3 => some (enumL x3))).bind fun l35 => forS (fun (s2 : (List ((Int) × (Int)))) (a4 : (Int) × (Int)) => (((some (0 : Int))).bind fun (v_best_6 : Int) => ((((some (1 : Int))).bind fun x5 => some (-x5))).bind fun (v_ahead_7 : Int) => ((((((some a4.1)).bind fun x9 => rng? 0 x9)).bind fun l26 => forS (fun (s8 : (Int) × (Int)) (a10 : Int) => ((((((((((some v_order)).bind fun x11 => ((some a10)).bind fun x12 => atI x11 x12)).bind fun x13 => ((some a4.2)).bind fun x14 => some (decide (x13 < x14)))).bind fun x19 => if x19 = true then (((((((some a10)).bind fun x15 => atI s2 x15)).bind fun x16 => some x16.1)).bind fun x17 => ((some s8.1)).bind fun x18 => some (decide (x18 < x17))) else some false)).bind fun b20 => if b20 = true then (((((((some a10)).bind fun x21 => atI s2 x21)).bind fun x22 => some x22.1)).bind fun (v_best_23 : Int) => ((some a10)).bind fun (v_ahead_24 : Int) => (some (v_best_23, v_ahead_24))) else (some (s8.1, s8.2)) : Option ((Int) × (Int))).bind fun s25 => (some (s25.1, s25.2)))) (v_best_6, v_ahead_7) l26).bind fun (s8 : (Int) × (Int)) => (((((((some s8.1)).bind fun x30 => ((((some v_weights)).bind fun x28 => ((some a4.2)).bind fun x29 => atI x28 x29)).bind fun x31 => some (x30 + x31))).bind fun x32 => ((some s8.2)).bind fun x33 => some (x32, x33))).bind fun x34 => (app? s2 x34).bind fun (v_found_27 : List ((Int) × (Int))) => (some v_found_27))))) v_found_1 l35).bind fun (s2 : (List ((Int) × (Int)))) => (some s2)))
def staying (v_order : List (Int)) (v_weights : List (Int)) : Option (List (Int)) :=
  (((((some v_order)).bind fun x1 => ((some v_weights)).bind fun x2 => heights x1 x2)).bind fun (v_tall_3 : List ((Int) × (Int))) => (((((some v_tall_3)).bind fun x4 => ((some ([] : List ((Int) × (Int))))).bind fun x5 => some (decide (x4 = x5)))).bind fun b6 => if b6 = true then (some ([] : List (Int))) else (((((((some v_tall_3)).bind fun x9 => lc? (fun (a7 : (Int) × (Int)) => (some true)) (fun (a7 : (Int) × (Int)) => (((some a7)).bind fun x8 => some x8.1)) x9)).bind fun x16 => ((((((some v_tall_3)).bind fun x13 => lc? (fun (a11 : (Int) × (Int)) => (some true)) (fun (a11 : (Int) × (Int)) => (((some a11)).bind fun x12 => some x12.1)) x13)).bind fun x15 => maxL x15)).bind fun x17 => idx? x16 x17)).bind fun (v_at_18 : Int) => (((some ([] : List (Int)))).bind fun (v_found_19 : List (Int)) => ((whS (fun (s20 : (Int) × (List (Int))) => (((some s20.1)).bind fun x21 => ((some (0 : Int))).bind fun x22 => some (decide (x22 ≤ x21)))) (fun (s20 : (Int) × (List (Int))) => (((((some v_order)).bind fun x24 => ((some s20.1)).bind fun x25 => atI x24 x25)).bind fun x26 => (app? s20.2 x26).bind fun (v_found_23 : List (Int)) => (((((((some v_tall_3)).bind fun x27 => ((some s20.1)).bind fun x28 => atI x27 x28)).bind fun x29 => some x29.2)).bind fun (v_at_30 : Int) => (some (v_at_30, v_found_23))))) 100 (v_at_18, v_found_19)).bind fun (s20 : (Int) × (List (Int))) => (((some s20.2)).bind fun x31 => some x31.reverse))))))
def paper (v_order : List (Int)) (v_weights : List (Int)) : Option (List ((List (Int)) × (Int))) :=
  (((((((some v_order)).bind fun x1 => ((some v_weights)).bind fun x2 => heights x1 x2)).bind fun x5 => lc? (fun (a3 : (Int) × (Int)) => (some true)) (fun (a3 : (Int) × (Int)) => (((some a3)).bind fun x4 => some x4.1)) x5)).bind fun (v_tall_7 : List (Int)) => (((some ([] : List ((List (Int)) × (Int))))).bind fun (v_found_8 : List ((List (Int)) × (Int))) => ((((((some (1 : Int))).bind fun x22 => ((((((((((some (0 : Int))).bind fun x15 => ((some ([] : List (Int)))).bind fun l16 => some (x15 :: l16))).bind fun x17 => ((some v_tall_7)).bind fun x18 => cat? x17 x18)).bind fun x19 => maxL x19)).bind fun x20 => ((some (1 : Int))).bind fun x21 => some (x20 + x21))).bind fun x23 => rng? x22 x23)).bind fun l71 => forS (fun (s9 : (List ((List (Int)) × (Int)))) (a24 : Int) => (((((((some v_order)).bind fun x25 => some (enumL x25))).bind fun x38 => lc? (fun (a26 : (Int) × (Int)) => (((((((some v_tall_7)).bind fun x27 => ((some a26.1)).bind fun x28 => atI x27 x28)).bind fun x31 => ((((some v_weights)).bind fun x29 => ((some a26.2)).bind fun x30 => atI x29 x30)).bind fun x32 => some (x31 - x32))).bind fun x35 => ((some a24)).bind fun x36 => if decide (x35 < x36) = true then ((((some v_tall_7)).bind fun x33 => ((some a26.1)).bind fun x34 => atI x33 x34)).bind fun x37 => some (decide (x36 ≤ x37)) else some false)) (fun (a26 : (Int) × (Int)) => (some a26.2)) x38)).bind fun (v_row_40 : List (Int)) => ((((((((some ([] : List ((List (Int)) × (Int))))).bind fun x41 => some (!decide (s9 = x41)))).bind fun x50 => if x50 = true then (((((((((some (1 : Int))).bind fun x45 => some (-x45))).bind fun x46 => atI s9 x46)).bind fun x47 => some x47.1)).bind fun x48 => ((some v_row_40)).bind fun x49 => some (decide (x48 = x49))) else some false)).bind fun b51 => if b51 = true then (((((some v_row_40)).bind fun x60 => ((((((((((some (1 : Int))).bind fun x55 => some (-x55))).bind fun x56 => atI s9 x56)).bind fun x57 => some x57.2)).bind fun x58 => ((some (1 : Int))).bind fun x59 => some (x58 + x59))).bind fun x61 => some (x60, x61))).bind fun x63 => ((((some (1 : Int))).bind fun x62 => some (-x62))).bind fun x64 => (seti? s9 x64 x63).bind fun (v_found_65 : List ((List (Int)) × (Int))) => (some v_found_65)) else (((((some v_row_40)).bind fun x67 => ((some (1 : Int))).bind fun x68 => some (x67, x68))).bind fun x69 => (app? s9 x69).bind fun (v_found_66 : List ((List (Int)) × (Int))) => (some v_found_66)) : Option ((List ((List (Int)) × (Int))))).bind fun s70 => (some s70)))) v_found_8 l71).bind fun (s9 : (List ((List (Int)) × (Int)))) => (some s9))))
def stand_right (v_order : List (Int)) (v_one : Int) (v_other : Int) : Option (Bool) :=
  (((((some v_one)).bind fun x1 => ((some v_other)).bind fun x2 => some (decide (x1 = x2)))).bind fun x19 => if x19 = true then some true else (((((((some v_order)).bind fun x9 => ((some v_one)).bind fun x10 => idx? x9 x10)).bind fun x13 => ((((some v_order)).bind fun x11 => ((some v_other)).bind fun x12 => idx? x11 x12)).bind fun x14 => some (decide (x13 < x14)))).bind fun x17 => ((((some v_one)).bind fun x15 => ((some v_other)).bind fun x16 => some (decide (x15 < x16)))).bind fun x18 => some (decide (x17 = x18))))
def free_ones (v_order : List (Int)) (v_nailed : List (Int)) : Option (List (Int)) :=
  (((some v_order)).bind fun x9 => lc? (fun (a1 : Int) => (((((some v_nailed)).bind fun x6 => lc? (fun (a2 : Int) => (some true)) (fun (a2 : Int) => (((some v_order)).bind fun x3 => ((some a1)).bind fun x4 => ((some a2)).bind fun x5 => stand_right x3 x4 x5)) x6)).bind fun x8 => some (x8.all id))) (fun (a1 : Int) => (some a1)) x9)
def clash (v_order : List (Int)) (v_nailed : List (Int)) : Option (Option ((Int) × (Int))) :=
  ((((some v_nailed)).bind fun l18 => forB (β := Option ((Int) × (Int))) (fun (s1 : Unit) (a2 : Int) => ((((some v_nailed)).bind fun l17 => forB (β := Option ((Int) × (Int))) (fun (s3 : Unit) (a4 : Int) => (((((((some a2)).bind fun x5 => ((some a4)).bind fun x6 => some (decide (x5 < x6)))).bind fun x11 => if x11 = true then (((((some v_order)).bind fun x7 => ((some a2)).bind fun x8 => ((some a4)).bind fun x9 => stand_right x7 x8 x9)).bind fun x10 => some (!x10)) else some false)).bind fun b12 => if b12 = true then ((((((some a2)).bind fun x13 => ((some a4)).bind fun x14 => some (x13, x14))).bind fun x15 => some (some x15))).bind (fun x16 => some (Rr.rt x16)) else (some (Rr.nx ())))) () l17).bind (Rr.goB fun (s3 : Unit) => (some (Rr.nx ()))))) () l18).bind (Rr.goR fun (s1 : Unit) => (some (none : Option ((Int) × (Int))))))
def weight_of (v_weights : List (Int)) (v_books : List (Int)) : Option (Int) :=
  (((((some v_books)).bind fun x4 => lc? (fun (a1 : Int) => (some true)) (fun (a1 : Int) => (((some v_weights)).bind fun x2 => ((some a1)).bind fun x3 => atI x2 x3)) x4)).bind fun x6 => some x6.sum)
def owed_by (v_order : List (Int)) (v_weights : List (Int)) (v_nailed : List (Int)) : Option (Option (Int)) :=
  (((((((some v_order)).bind fun x1 => ((some v_nailed)).bind fun x2 => clash x1 x2)).bind fun x3 => some (!x3.isNone))).bind fun b4 => if b4 = true then (some (none : Option (Int))) else (((((((some v_weights)).bind fun x5 => some x5.sum)).bind fun x12 => ((((some v_weights)).bind fun x10 => ((((((some v_order)).bind fun x6 => ((some v_nailed)).bind fun x7 => free_ones x6 x7)).bind fun x8 => ((some v_weights)).bind fun x9 => staying x8 x9)).bind fun x11 => weight_of x10 x11)).bind fun x13 => some (x12 - x13))).bind fun x14 => some (some x14)))
def put_at (v_order : List (Int)) (v_book : Int) (v_place : Int) : Option (List (Int)) :=
  (((((some v_order)).bind fun x4 => lc? (fun (a1 : Int) => (((some a1)).bind fun x2 => ((some v_book)).bind fun x3 => some (!decide (x2 = x3)))) (fun (a1 : Int) => (some a1)) x4)).bind fun (v_rest_6 : List (Int)) => (((((((some v_rest_6)).bind fun x8 => ((some (none : Option Int))).bind fun x9 => ((((some v_place)).bind fun x7 => some (some x7))).bind fun x10 => some (cut x8 x9 x10))).bind fun x13 => ((((some v_book)).bind fun x11 => ((some ([] : List (Int)))).bind fun l12 => some (x11 :: l12))).bind fun x14 => cat? x13 x14)).bind fun x19 => ((((some v_rest_6)).bind fun x16 => ((((some v_place)).bind fun x15 => some (some x15))).bind fun x17 => ((some (none : Option Int))).bind fun x18 => some (cut x16 x17 x18))).bind fun x20 => cat? x19 x20))
def place_among (v_order : List (Int)) (v_book : Int) (v_settled : List (Int)) : Option (Int) :=
  (((((some v_order)).bind fun x4 => lc? (fun (a1 : Int) => (((some a1)).bind fun x2 => ((some v_book)).bind fun x3 => some (!decide (x2 = x3)))) (fun (a1 : Int) => (some a1)) x4)).bind fun (v_rest_11 : List (Int)) => ((((some v_settled)).bind fun x9 => lc? (fun (a6 : Int) => (((some a6)).bind fun x7 => ((some v_book)).bind fun x8 => some (decide (x7 < x8)))) (fun (a6 : Int) => (some a6)) x9)).bind fun (v_lesser_12 : List (Int)) => (((((some v_lesser_12)).bind fun x13 => ((some ([] : List (Int)))).bind fun x14 => some (!decide (x13 = x14)))).bind fun x23 => if x23 = true then (((((some v_rest_11)).bind fun x19 => ((((some v_lesser_12)).bind fun x18 => maxL x18)).bind fun x20 => idx? x19 x20)).bind fun x21 => ((some (1 : Int))).bind fun x22 => some (x21 + x22)) else (some (0 : Int))))
def are_in (v_order : List (Int)) (v_books : List (Int)) : Option (Bool) :=
  (((((((((some v_books)).bind fun x4 => lc? (fun (a1 : Int) => (some true)) (fun (a1 : Int) => (((some a1)).bind fun x2 => ((some v_order)).bind fun x3 => some (decide (x2 ∈ x3)))) x4)).bind fun x6 => some (x6.all id))).bind fun x7 => some (!x7))).bind fun b8 => if b8 = true then (some false) else (((((some v_books)).bind fun x12 => lc? (fun (a9 : Int) => (some true)) (fun (a9 : Int) => (((some v_order)).bind fun x10 => ((some a9)).bind fun x11 => idx? x10 x11)) x12)).bind fun (v_places_14 : List (Int)) => (((((((((some v_places_14)).bind fun x19 => ((((some v_places_14)).bind fun x16 => ((((some (1 : Int))).bind fun x15 => some (some x15))).bind fun x17 => ((some (none : Option Int))).bind fun x18 => some (cut x16 x17 x18))).bind fun x20 => some (List.zip x19 x20))).bind fun x24 => lc? (fun (a21 : (Int) × (Int)) => (some true)) (fun (a21 : (Int) × (Int)) => (((some a21.1)).bind fun x22 => ((some a21.2)).bind fun x23 => some (decide (x23 ≤ x22)))) x24)).bind fun x26 => some (x26.any id))).bind fun x27 => some (!x27))))
def is_staying (v_order : List (Int)) (v_books : List (Int)) : Option (Bool) :=
  (((((some v_order)).bind fun x1 => ((some v_books)).bind fun x2 => are_in x1 x2)).bind fun x16 => if x16 = true then (((((((((some v_books)).bind fun x7 => ((((some v_books)).bind fun x4 => ((((some (1 : Int))).bind fun x3 => some (some x3))).bind fun x5 => ((some (none : Option Int))).bind fun x6 => some (cut x4 x5 x6))).bind fun x8 => some (List.zip x7 x8))).bind fun x12 => lc? (fun (a9 : (Int) × (Int)) => (some true)) (fun (a9 : (Int) × (Int)) => (((some a9.1)).bind fun x10 => ((some a9.2)).bind fun x11 => some (decide (x11 ≤ x10)))) x12)).bind fun x14 => some (x14.any id))).bind fun x15 => some (!x15)) else some false)
def is_whole (v_thing : Int) : Option (Bool) :=
  (((((some v_thing)).bind fun _ => some true)).bind fun x2 => if x2 = true then (((((some v_thing)).bind fun _ => some false)).bind fun x1 => some (!x1)) else some false)
def is_between (v_thing : Int) (v_least : Int) (v_most : Int) : Option (Bool) :=
  (((((some v_thing)).bind fun x1 => is_whole x1)).bind fun x5 => if x5 = true then (((some v_least)).bind fun x2 => ((some v_thing)).bind fun x3 => if decide (x2 ≤ x3) = true then ((some v_most)).bind fun x4 => some (decide (x3 ≤ x4)) else some false) else some false)
def are_books (v_thing : List (Int)) (v_many : Int) : Option (Bool) :=
  (((((((((some v_thing)).bind fun _ => some true)).bind fun x1 => some (!x1))).bind fun x8 => if x8 = true then some true else (((((((some v_thing)).bind fun x4 => lc? (fun (a2 : Int) => (some true)) (fun (a2 : Int) => (((some a2)).bind fun x3 => is_whole x3)) x4)).bind fun x6 => some (x6.all id))).bind fun x7 => some (!x7)))).bind fun b9 => if b9 = true then (some false) else (((((some v_thing)).bind fun x11 => sort? x11)).bind fun x13 => ((((some v_many)).bind fun x12 => rng? 0 x12)).bind fun x14 => some (decide (x13 = x14))))
def check_weights (v_many : Int) (v_weights : List (Int)) : Option (Unit) :=
  (((((((((some v_weights)).bind fun _ => some true)).bind fun x1 => some (!x1))).bind fun x6 => if x6 = true then some true else (((((some v_weights)).bind fun x3 => some (x3.length : Int))).bind fun x4 => ((some v_many)).bind fun x5 => some (!decide (x4 = x5))))).bind fun b7 => if b7 = true then none else (((((((((some v_weights)).bind fun x12 => lc? (fun (a8 : Int) => (some true)) (fun (a8 : Int) => (((some a8)).bind fun x9 => ((some (1 : Int))).bind fun x10 => ((some (9 : Int))).bind fun x11 => is_between x9 x10 x11)) x12)).bind fun x14 => some (x14.all id))).bind fun x15 => some (!x15))).bind fun b16 => if b16 = true then none else (some ())))
def check_all (v_order : List (Int)) (v_weights : List (Int)) (v_most : Int) : Option (Unit) :=
  (((((((((some v_order)).bind fun _ => some true)).bind fun x1 => some (!x1))).bind fun x12 => if x12 = true then some true else (((((((some (1 : Int))).bind fun x3 => ((((some v_order)).bind fun x2 => some (x2.length : Int))).bind fun x4 => if decide (x3 ≤ x4) = true then ((some v_most)).bind fun x5 => some (decide (x4 ≤ x5)) else some false)).bind fun x6 => some (!x6))).bind fun x11 => if x11 = true then some true else (((((some v_order)).bind fun x8 => ((((some v_order)).bind fun x7 => some (x7.length : Int))).bind fun x9 => are_books x8 x9)).bind fun x10 => some (!x10))))).bind fun b13 => if b13 = true then none else (((((((some v_order)).bind fun x14 => some (x14.length : Int))).bind fun x15 => ((some v_weights)).bind fun x16 => check_weights x15 x16)).bind fun x17 => (some ())))
def check_nailed (v_many : Int) (v_nailed : List (Int)) : Option (Unit) :=
  (((((((((some v_nailed)).bind fun _ => some true)).bind fun x1 => some (!x1))).bind fun x12 => if x12 = true then some true else (((((((some v_nailed)).bind fun x8 => lc? (fun (a2 : Int) => (some true)) (fun (a2 : Int) => (((some a2)).bind fun x5 => ((some (0 : Int))).bind fun x6 => ((((some v_many)).bind fun x3 => ((some (1 : Int))).bind fun x4 => some (x3 - x4))).bind fun x7 => is_between x5 x6 x7)) x8)).bind fun x10 => some (x10.all id))).bind fun x11 => some (!x11)))).bind fun b13 => if b13 = true then none else (((((((((some v_nailed)).bind fun x18 => ((((some v_nailed)).bind fun x15 => ((((some (1 : Int))).bind fun x14 => some (some x14))).bind fun x16 => ((some (none : Option Int))).bind fun x17 => some (cut x15 x16 x17))).bind fun x19 => some (List.zip x18 x19))).bind fun x23 => lc? (fun (a20 : (Int) × (Int)) => (some true)) (fun (a20 : (Int) × (Int)) => (((some a20.1)).bind fun x21 => ((some a20.2)).bind fun x22 => some (decide (x22 ≤ x21)))) x23)).bind fun x25 => some (x25.any id))).bind fun b26 => if b26 = true then none else (some ())))
def check_three (v_order : List (Int)) (v_weights : List (Int)) (v_nailed : List (Int)) : Option (Unit) :=
  (((((some v_order)).bind fun x1 => ((some v_weights)).bind fun x2 => ((some (24 : Int))).bind fun x3 => check_all x1 x2 x3)).bind fun x8 => (((((((some v_order)).bind fun x4 => some (x4.length : Int))).bind fun x5 => ((some v_nailed)).bind fun x6 => check_nailed x5 x6)).bind fun x7 => (some ())))
def read_from (v_order : List (Int)) (v_book : Int) : Option (List (Int)) :=
  (((((some v_order)).bind fun x1 => ((some v_book)).bind fun x2 => idx? x1 x2)).bind fun (v_at_4 : Int) => ((((some v_order)).bind fun x3 => some (x3.length : Int))).bind fun (v_many_5 : Int) => (((((((some v_order)).bind fun x11 => ((((some v_at_4)).bind fun x10 => some (some x10))).bind fun x12 => ((some (none : Option Int))).bind fun x13 => some (cut x11 x12 x13))).bind fun x18 => ((((some v_order)).bind fun x15 => ((some (none : Option Int))).bind fun x16 => ((((some v_at_4)).bind fun x14 => some (some x14))).bind fun x17 => some (cut x15 x16 x17))).bind fun x19 => cat? x18 x19)).bind fun x25 => lc? (fun (a20 : Int) => (some true)) (fun (a20 : Int) => (((((some a20)).bind fun x21 => ((some v_book)).bind fun x22 => some (x21 - x22))).bind fun x23 => ((some v_many_5)).bind fun x24 => fmod? x23 x24)) x25))
def weights_from (v_weights : List (Int)) (v_book : Int) : Option (List (Int)) :=
  (((((some v_weights)).bind fun x2 => ((((some v_book)).bind fun x1 => some (some x1))).bind fun x3 => ((some (none : Option Int))).bind fun x4 => some (cut x2 x3 x4))).bind fun x9 => ((((some v_weights)).bind fun x6 => ((some (none : Option Int))).bind fun x7 => ((((some v_book)).bind fun x5 => some (some x5))).bind fun x8 => some (cut x6 x7 x8))).bind fun x10 => cat? x9 x10)
def round_stays (v_order : List (Int)) (v_weights : List (Int)) : Option (List (List (Int))) :=
  (((some ([] : List (List (Int))))).bind fun (v_found_1 : List (List (Int))) => ((((((((some v_order)).bind fun x3 => some (x3.length : Int))).bind fun x4 => rng? 0 x4)).bind fun l24 => forS (fun (s2 : (List (List (Int)))) (a5 : Int) => (((((some v_order)).bind fun x6 => ((some a5)).bind fun x7 => read_from x6 x7)).bind fun (v_turned_10 : List (Int)) => ((((some v_weights)).bind fun x8 => ((some a5)).bind fun x9 => weights_from x8 x9)).bind fun (v_mine_11 : List (Int)) => (((((((some v_turned_10)).bind fun x13 => ((some v_mine_11)).bind fun x14 => staying x13 x14)).bind fun x21 => lc? (fun (a15 : Int) => (some true)) (fun (a15 : Int) => (((((some a15)).bind fun x16 => ((some a5)).bind fun x17 => some (x16 + x17))).bind fun x19 => ((((some v_order)).bind fun x18 => some (x18.length : Int))).bind fun x20 => fmod? x19 x20)) x21)).bind fun x23 => (app? s2 x23).bind fun (v_found_12 : List (List (Int))) => (some v_found_12)))) v_found_1 l24).bind fun (s2 : (List (List (Int)))) => (some s2)))
def course (v_order : List (Int)) (v_nailed : List (Int)) (v_plan : List ((Int) × (Int))) : Option ((List (Int)) × (Int)) :=
  ((((((some v_plan)).bind fun x2 => some (enumL x2))).bind fun l23 => forB (β := (List (Int)) × (Int)) (fun (s1 : (List (Int))) (a3 : (Int) × ((Int) × (Int))) => (((((((some a3.2.1)).bind fun x4 => ((some s1)).bind fun x5 => some (!decide (x4 ∈ x5)))).bind fun x14 => if x14 = true then some true else (((((some a3.2.1)).bind fun x6 => ((some v_nailed)).bind fun x7 => some (decide (x6 ∈ x7)))).bind fun x13 => if x13 = true then some true else (((((some (0 : Int))).bind fun x9 => ((some a3.2.2)).bind fun x10 => if decide (x9 ≤ x10) = true then ((((some s1)).bind fun x8 => some (x8.length : Int))).bind fun x11 => some (decide (x10 < x11)) else some false)).bind fun x12 => some (!x12))))).bind fun b15 => if b15 = true then ((((some s1)).bind fun x16 => ((some a3.1)).bind fun x17 => some (x16, x17))).bind (fun x22 => some (Rr.rt x22)) else (((((some s1)).bind fun x18 => ((some a3.2.1)).bind fun x19 => ((some a3.2.2)).bind fun x20 => put_at x18 x19 x20)).bind fun (v_order_21 : List (Int)) => (some (Rr.nx v_order_21))))) v_order l23).bind (Rr.goR fun (s1 : (List (Int))) => (((some s1)).bind fun x25 => ((((some (1 : Int))).bind fun x24 => some (-x24))).bind fun x26 => some (x25, x26))))
def outcome (v_order : List (Int)) (v_weights : List (Int)) (v_nailed : List (Int)) (v_plan : List ((Int) × (Int))) : Option ((Int) × (Int)) :=
  (((((some v_order)).bind fun x1 => ((some v_nailed)).bind fun x2 => ((some v_plan)).bind fun x3 => course x1 x2 x3)).bind fun (z4 : (List (Int)) × (Int)) => (((((some z4.2)).bind fun x5 => ((some (0 : Int))).bind fun x6 => some (decide (x6 ≤ x5)))).bind fun b7 => if b7 = true then (((some z4.2)).bind fun x8 => ((some (0 : Int))).bind fun x9 => some (x8, x9)) else (((((some z4.1)).bind fun x11 => ((((some z4.1)).bind fun x10 => sort? x10)).bind fun x12 => some (!decide (x11 = x12)))).bind fun b13 => if b13 = true then (((((some v_plan)).bind fun x14 => some (x14.length : Int))).bind fun x15 => ((some (0 : Int))).bind fun x16 => some (x15, x16)) else (((((some (1 : Int))).bind fun x17 => some (-x17))).bind fun x29 => ((((((some v_weights)).bind fun x21 => ((((some v_plan)).bind fun x19 => lc? (fun (a18 : (Int) × (Int)) => (some true)) (fun (a18 : (Int) × (Int)) => (some a18.1)) x19)).bind fun x22 => weight_of x21 x22)).bind fun x27 => ((((((some v_order)).bind fun x23 => ((some v_weights)).bind fun x24 => ((some v_nailed)).bind fun x25 => owed_by x23 x24 x25)).bind fun x26 => x26)).bind fun x28 => some (x27 - x28))).bind fun x30 => some (x29, x30)))))
def check_plan (v_plan : List ((Int) × (Int))) : Option (Unit) :=
  (((((((((some v_plan)).bind fun _ => some true)).bind fun x1 => some (!x1))).bind fun x5 => if x5 = true then some true else (((((some v_plan)).bind fun x2 => some (x2.length : Int))).bind fun x3 => ((some (60 : Int))).bind fun x4 => some (decide (x4 < x3))))).bind fun b6 => if b6 = true then none else ((((some v_plan)).bind fun l22 => forS (fun (s7 : Unit) (a8 : (Int) × (Int)) => (((((((((some a8)).bind fun _ => some true)).bind fun x9 => some (!x9))).bind fun x20 => if x20 = true then some true else (((((((some a8)).bind fun _ => some (2 : Int))).bind fun x10 => ((some (2 : Int))).bind fun x11 => some (!decide (x10 = x11)))).bind fun x19 => if x19 = true then some true else (((((((((some a8)).bind fun x12 => some x12.1)).bind fun x13 => is_whole x13)).bind fun x14 => some (!x14))).bind fun x18 => if x18 = true then some true else (((((((some a8)).bind fun x15 => some x15.2)).bind fun x16 => is_whole x16)).bind fun x17 => some (!x17)))))).bind fun b21 => if b21 = true then none else (some ()))) () l22).bind fun (s7 : Unit) => (some ())))
def _law_number (v_cell : Int) (v_at : Int) (v_whole : Int) : Option (Int) :=
  (((((some v_cell)).bind fun x3 => ((((some (10 : Int))).bind fun x1 => ((some (18 : Int))).bind fun x2 => pow? x1 x2)).bind fun x4 => some (decide (x4 ≤ x3)))).bind fun b5 => if b5 = true then (some v_cell) else (((((some v_cell)).bind fun x6 => ((some (2147483647 : Int))).bind fun x7 => fmod? x6 x7)).bind fun (v_small_8 : Int) => (((((((((((some v_small_8)).bind fun x17 => ((((some (977 : Int))).bind fun x15 => ((some v_at)).bind fun x16 => mul? x15 x16)).bind fun x18 => some (x17 + x18))).bind fun x19 => ((some (48271 : Int))).bind fun x20 => mul? x19 x20)).bind fun x23 => ((((some v_whole)).bind fun x21 => ((some (2147483647 : Int))).bind fun x22 => fmod? x21 x22)).bind fun x24 => some (x23 + x24))).bind fun x25 => ((some (2147483647 : Int))).bind fun x26 => fmod? x25 x26)).bind fun (v_mixed_27 : Int) => (((((((some v_mixed_27)).bind fun x38 => ((((((some v_mixed_27)).bind fun x34 => ((((some (31 : Int))).bind fun x32 => ((some v_at)).bind fun x33 => mul? x32 x33)).bind fun x35 => some (x34 + x35))).bind fun x36 => ((some (7 : Int))).bind fun x37 => some (x36 + x37))).bind fun x39 => mul? x38 x39)).bind fun x46 => ((((((some v_mixed_27)).bind fun x42 => ((some v_small_8)).bind fun x43 => some (x42 + x43))).bind fun x44 => ((some (5 : Int))).bind fun x45 => some (x44 + x45))).bind fun x47 => mul? x46 x47)).bind fun (v_more_48 : Int) => (((((some v_more_48)).bind fun x51 => ((((some v_more_48)).bind fun x49 => ((some (48271 : Int))).bind fun x50 => some (x49 + x50))).bind fun x52 => mul? x51 x52)).bind fun x53 => ((some (1009 : Int))).bind fun x54 => fdiv? x53 x54)))))
def _law_order (v_script : Scr) (v_by : Int) (v_most : Int) : Option (List (Int)) :=
  (((((((some v_script)).bind fun x1 => some (!decide (x1.ns = [])))).bind fun x8 => if x8 = true then (((some v_script)).bind fun x4 => ((some (63 : Int))).bind fun x5 => some (cut x4.ns none (some x5))) else (((some (5 : Int))).bind fun x6 => ((some ([] : List (Int)))).bind fun l7 => some (x6 :: l7)))).bind fun (v_cells_9 : List (Int)) => (((((((some v_cells_9)).bind fun x11 => some x11.sum)).bind fun x12 => ((some v_by)).bind fun x13 => some (x12 + x13))).bind fun (v_whole_14 : Int) => ((some ([] : List (Int)))).bind fun (v_found_15 : List (Int)) => (((((some (1 : Int))).bind fun x25 => ((((((((some v_whole_14)).bind fun x18 => ((((some v_by)).bind fun x16 => ((some (1 : Int))).bind fun x17 => some (x16 + x17))).bind fun x19 => ((some (3 : Int))).bind fun x20 => _law_number x18 x19 x20)).bind fun x21 => ((some (9 : Int))).bind fun x22 => fdiv? x21 x22)).bind fun x23 => ((some v_most)).bind fun x24 => fmod? x23 x24)).bind fun x26 => some (x25 + x26))).bind fun (v_many_36 : Int) => ((((((((some v_whole_14)).bind fun x29 => ((((some v_by)).bind fun x27 => ((some (1 : Int))).bind fun x28 => some (x27 + x28))).bind fun x30 => ((some (3 : Int))).bind fun x31 => _law_number x29 x30 x31)).bind fun x32 => ((some (216 : Int))).bind fun x33 => fdiv? x32 x33)).bind fun x34 => ((some (5 : Int))).bind fun x35 => fmod? x34 x35)).bind fun (v_kind_37 : Int) => ((((((some v_many_36)).bind fun x39 => rng? 0 x39)).bind fun l104 => forS (fun (s38 : (List (Int))) (a40 : Int) => (((((((((((some v_cells_9)).bind fun x53 => ((((((some a40)).bind fun x48 => ((some v_by)).bind fun x49 => some (x48 + x49))).bind fun x51 => ((((some v_cells_9)).bind fun x50 => some (x50.length : Int))).bind fun x52 => fmod? x51 x52)).bind fun x54 => atI x53 x54)).bind fun x57 => ((((some (5 : Int))).bind fun x55 => ((some a40)).bind fun x56 => mul? x55 x56)).bind fun x58 => some (x57 + x58))).bind fun x61 => ((((some a40)).bind fun x59 => ((some v_by)).bind fun x60 => some (x59 + x60))).bind fun x62 => ((some v_whole_14)).bind fun x63 => _law_number x61 x62 x63)).bind fun x64 => ((some (3 : Int))).bind fun x65 => fdiv? x64 x65)).bind fun (v_number_here_66 : Int) => (((((((((((some v_number_here_66)).bind fun x79 => ((((some a40)).bind fun x77 => ((some (1 : Int))).bind fun x78 => some (x77 + x78))).bind fun x80 => fmod? x79 x80)).bind fun x95 => ((((((some v_number_here_66)).bind fun x81 => ((some (2 : Int))).bind fun x82 => fmod? x81 x82)).bind fun x93 => ((((some a40)).bind fun x91 => ((((((((some v_number_here_66)).bind fun x83 => ((some (2 : Int))).bind fun x84 => fmod? x83 x84)).bind fun x85 => ((some a40)).bind fun x86 => mul? x85 x86)).bind fun x89 => ((((some a40)).bind fun x87 => ((some ([] : List (Int)))).bind fun l88 => some (x87 :: l88))).bind fun l90 => some (x89 :: l90))).bind fun l92 => some (x91 :: l92))).bind fun l94 => some (x93 :: l94))).bind fun l96 => some (x95 :: l96))).bind fun x97 => some (Tu.mk x97))).bind fun x98 => ((some v_kind_37)).bind fun x99 => atI x98.xs x99)).bind fun (v_spot_100 : Int) => (((some v_spot_100)).bind fun x102 => ((some a40)).bind fun x103 => (ins? s38 x102 x103).bind fun (v_found_101 : List (Int)) => (some v_found_101))))) v_found_15 l104).bind fun (s38 : (List (Int))) => ((((((((some v_kind_37)).bind fun x105 => ((some (2 : Int))).bind fun x106 => some (decide (x105 = x106)))).bind fun x109 => if x109 = true then some true else (((some v_kind_37)).bind fun x107 => ((some (4 : Int))).bind fun x108 => some (decide (x107 = x108))))).bind fun b110 => if b110 = true then ((((((((some v_many_36)).bind fun x112 => ((some (4 : Int))).bind fun x113 => fdiv? x112 x113)).bind fun x114 => rng? 0 x114)).bind fun l143 => forS (fun (s111 : (List (Int))) (a115 : Int) => (((((((((((some v_cells_9)).bind fun x124 => ((((some a115)).bind fun x122 => ((((some v_cells_9)).bind fun x121 => some (x121.length : Int))).bind fun x123 => fmod? x122 x123)).bind fun x125 => atI x124 x125)).bind fun x126 => ((some (9 : Int))).bind fun x127 => some (x126 + x127))).bind fun x128 => ((some a115)).bind fun x129 => ((some v_whole_14)).bind fun x130 => _law_number x128 x129 x130)).bind fun x131 => ((some (3 : Int))).bind fun x132 => fdiv? x131 x132)).bind fun (v_number_here_133 : Int) => (((((((some v_number_here_133)).bind fun x135 => ((some (24 : Int))).bind fun x136 => fdiv? x135 x136)).bind fun x137 => ((some v_many_36)).bind fun x138 => fmod? x137 x138)).bind fun x139 => ((((some v_number_here_133)).bind fun x141 => ((some v_many_36)).bind fun x142 => fmod? x141 x142)).bind fun x140 => (move? s111 x139 x140).bind fun (v_found_134 : List (Int)) => (some v_found_134)))) s38 l143).bind fun (s111 : (List (Int))) => (some s111)) else (some s38) : Option ((List (Int)))).bind fun s144 => (((((((some v_kind_37)).bind fun x145 => ((some (4 : Int))).bind fun x146 => some (decide (x145 = x146)))).bind fun x155 => if x155 = true then (((((some v_whole_14)).bind fun x151 => ((some (5 : Int))).bind fun x152 => fdiv? x151 x152)).bind fun x153 => ((some v_many_36)).bind fun x154 => fmod? x153 x154) else (some (0 : Int)))).bind fun (v_shift_156 : Int) => (((((some s144)).bind fun x158 => ((((some v_shift_156)).bind fun x157 => some (some x157))).bind fun x159 => ((some (none : Option Int))).bind fun x160 => some (cut x158 x159 x160))).bind fun x165 => ((((some s144)).bind fun x162 => ((some (none : Option Int))).bind fun x163 => ((((some v_shift_156)).bind fun x161 => some (some x161))).bind fun x164 => some (cut x162 x163 x164))).bind fun x166 => cat? x165 x166)))))))
def _law_weights (v_script : Scr) (v_by : Int) (v_many : Int) : Option (List (Int)) :=
  (((((((some v_script)).bind fun x1 => some (!decide (x1.ns = [])))).bind fun x8 => if x8 = true then (((some v_script)).bind fun x4 => ((some (63 : Int))).bind fun x5 => some (cut x4.ns none (some x5))) else (((some (5 : Int))).bind fun x6 => ((some ([] : List (Int)))).bind fun l7 => some (x6 :: l7)))).bind fun (v_cells_9 : List (Int)) => (((((((some v_cells_9)).bind fun x11 => some x11.sum)).bind fun x12 => ((some v_by)).bind fun x13 => some (x12 + x13))).bind fun (v_whole_14 : Int) => ((some ([] : List (Int)))).bind fun (v_found_15 : List (Int)) => (((((((((some v_whole_14)).bind fun x18 => ((((some v_by)).bind fun x16 => ((some (1 : Int))).bind fun x17 => some (x16 + x17))).bind fun x19 => ((some (3 : Int))).bind fun x20 => _law_number x18 x19 x20)).bind fun x21 => ((some (1080 : Int))).bind fun x22 => fdiv? x21 x22)).bind fun x23 => ((some (3 : Int))).bind fun x24 => fmod? x23 x24)).bind fun (v_kind_25 : Int) => ((((((some v_many)).bind fun x27 => rng? 0 x27)).bind fun l96 => forS (fun (s26 : (List (Int))) (a28 : Int) => (((((((((((some v_cells_9)).bind fun x41 => ((((((some a28)).bind fun x36 => ((some v_by)).bind fun x37 => some (x36 + x37))).bind fun x39 => ((((some v_cells_9)).bind fun x38 => some (x38.length : Int))).bind fun x40 => fmod? x39 x40)).bind fun x42 => atI x41 x42)).bind fun x45 => ((((some (3 : Int))).bind fun x43 => ((some a28)).bind fun x44 => mul? x43 x44)).bind fun x46 => some (x45 + x46))).bind fun x49 => ((((some a28)).bind fun x47 => ((some v_by)).bind fun x48 => some (x47 + x48))).bind fun x50 => ((some v_whole_14)).bind fun x51 => _law_number x49 x50 x51)).bind fun x52 => ((some (7 : Int))).bind fun x53 => fdiv? x52 x53)).bind fun (v_number_here_54 : Int) => (((((((((((some (1 : Int))).bind fun x73 => ((((some v_number_here_54)).bind fun x71 => ((some (9 : Int))).bind fun x72 => fmod? x71 x72)).bind fun x74 => some (x73 + x74))).bind fun x90 => ((((((some (1 : Int))).bind fun x77 => ((((some v_whole_14)).bind fun x75 => ((some (9 : Int))).bind fun x76 => fmod? x75 x76)).bind fun x78 => some (x77 + x78))).bind fun x88 => ((((((((((some v_number_here_54)).bind fun x81 => ((some (5 : Int))).bind fun x82 => fmod? x81 x82)).bind fun x83 => ((some (0 : Int))).bind fun x84 => some (decide (x83 = x84)))).bind fun x85 => if x85 = true then (some (9 : Int)) else (some (1 : Int)))).bind fun x86 => ((some ([] : List (Int)))).bind fun l87 => some (x86 :: l87))).bind fun l89 => some (x88 :: l89))).bind fun l91 => some (x90 :: l91))).bind fun x92 => some (Tu.mk x92))).bind fun x93 => ((some v_kind_25)).bind fun x94 => atI x93.xs x94)).bind fun x95 => (app? s26 x95).bind fun (v_found_55 : List (Int)) => (some v_found_55)))) v_found_15 l96).bind fun (s26 : (List (Int))) => (some s26)))))
def mk_Least (v_stay : List (Int)) (v_rows : List ((List (Int)) × (Int))) : Option Ans :=
  (((((some v_stay)).bind fun x1 => some x1)).bind fun (f_stay : List (Int)) => (((((some v_rows)).bind fun x7 => lc? (fun (a3 : (List (Int)) × (Int)) => (some true)) (fun (a3 : (List (Int)) × (Int)) => (((((some a3.1)).bind fun x4 => some x4)).bind fun x5 => ((some a3.2)).bind fun x6 => some (x5, x6))) x7)).bind fun (f_rows : List ((List (Int)) × (Int))) => some (Ans.least f_stay f_rows)))
def mk_Stuck (v_one : Int) (v_other : Int) : Option Ans :=
  (((some v_one)).bind fun (f_one : Int) => (((some v_other)).bind fun (f_other : Int) => some (Ans.stuck f_one f_other)))
def mk_Dear (v_more : Int) : Option Ans :=
  (((some v_more)).bind fun (f_more : Int) => some (Ans.dear f_more))
def mk_Wrong (v_step : Int) : Option Ans :=
  (((some v_step)).bind fun (f_step : Int) => some (Ans.wrong f_step))
def mk_Round (v_stay : List (Int)) (v_papers : List (List ((List (Int)) × (Int)))) : Option Ans :=
  (((((some v_stay)).bind fun x1 => some x1)).bind fun (f_stay : List (Int)) => (((((some v_papers)).bind fun x10 => lc? (fun (a3 : List ((List (Int)) × (Int))) => (some true)) (fun (a3 : List ((List (Int)) × (Int))) => (((some a3)).bind fun x8 => lc? (fun (a4 : (List (Int)) × (Int)) => (some true)) (fun (a4 : (List (Int)) × (Int)) => (((((some a4.1)).bind fun x5 => some x5)).bind fun x6 => ((some a4.2)).bind fun x7 => some (x6, x7))) x8)) x10)).bind fun (f_papers : List (List ((List (Int)) × (Int)))) => some (Ans.round f_stay f_papers)))
def mk_Shelf (v_order : List (Int)) (v_weights : List (Int)) (v_nailed : List (Int)) : Option Shf :=
  (((((some v_order)).bind fun x1 => ((some v_weights)).bind fun x2 => ((some (24 : Int))).bind fun x3 => check_all x1 x2 x3)).bind fun _ => (((((((some v_order)).bind fun x4 => some (x4.length : Int))).bind fun x5 => ((some v_nailed)).bind fun x6 => check_nailed x5 x6)).bind fun _ => (((((some v_order)).bind fun x7 => some x7)).bind fun (f_books : List (Int)) => (((((some v_weights)).bind fun x9 => some x9)).bind fun (f_weights : List (Int)) => (((((some v_nailed)).bind fun x11 => some x11)).bind fun (f_nailed : List (Int)) => (((some (0 : Int))).bind fun (f_paid : Int) => (((some ([] : List ((Int) × (Int))))).bind fun (f_done : List ((Int) × (Int))) => some (Shf.mk f_books f_weights f_nailed f_paid f_done))))))))
def least (v_order : List (Int)) (v_weights : List (Int)) (v_nailed : List (Int)) : Option (Ans) :=
  (((((some v_order)).bind fun x1 => ((some v_weights)).bind fun x2 => ((some v_nailed)).bind fun x3 => check_three x1 x2 x3)).bind fun x36 => (((((some v_order)).bind fun x4 => ((some v_nailed)).bind fun x5 => clash x4 x5)).bind fun (v_wrong_6 : Option ((Int) × (Int))) => (((((some v_wrong_6)).bind fun x7 => some (!x7.isNone))).bind fun b8 => if b8 = true then (((((((some v_wrong_6)).bind fun x9 => x9)).bind fun x10 => some x10.1)).bind fun x13 => ((((((some v_wrong_6)).bind fun x11 => x11)).bind fun x12 => some x12.2)).bind fun x14 => mk_Stuck x13 x14) else (((((some v_order)).bind fun x21 => ((some v_nailed)).bind fun x22 => free_ones x21 x22)).bind fun (v_free_23 : List (Int)) => (((((some v_free_23)).bind fun x24 => ((some v_weights)).bind fun x25 => staying x24 x25)).bind fun x28 => ((((some v_free_23)).bind fun x26 => ((some v_weights)).bind fun x27 => paper x26 x27)).bind fun x29 => mk_Least x28 x29)))))
def takings (v_order : List (Int)) (v_weights : List (Int)) (v_nailed : List (Int)) : Option (Option (List ((Int) × (Int)))) :=
  (((((some v_order)).bind fun x1 => ((some v_weights)).bind fun x2 => ((some v_nailed)).bind fun x3 => check_three x1 x2 x3)).bind fun x43 => (((((((some v_order)).bind fun x4 => ((some v_nailed)).bind fun x5 => clash x4 x5)).bind fun x6 => some (!x6.isNone))).bind fun b7 => if b7 = true then (some (none : Option (List ((Int) × (Int))))) else (((((((some v_order)).bind fun x8 => ((some v_nailed)).bind fun x9 => free_ones x8 x9)).bind fun x10 => ((some v_weights)).bind fun x11 => staying x10 x11)).bind fun (v_settled_13 : List (Int)) => ((((some v_order)).bind fun x12 => some x12)).bind fun (v_here_14 : List (Int)) => ((some ([] : List ((Int) × (Int))))).bind fun (v_found_15 : List ((Int) × (Int))) => ((((((((some v_order)).bind fun x17 => some (x17.length : Int))).bind fun x18 => rng? 0 x18)).bind fun l41 => forS (fun (s16 : (List (Int)) × (List (Int)) × (List ((Int) × (Int)))) (a19 : Int) => ((((((some a19)).bind fun x20 => ((some s16.1)).bind fun x21 => some (!decide (x20 ∈ x21)))).bind fun b22 => if b22 = true then (((((some s16.2.1)).bind fun x23 => ((some a19)).bind fun x24 => ((some s16.1)).bind fun x25 => place_among x23 x24 x25)).bind fun (v_place_26 : Int) => (((((some a19)).bind fun x28 => ((some v_place_26)).bind fun x29 => some (x28, x29))).bind fun x30 => (app? s16.2.2 x30).bind fun (v_found_27 : List ((Int) × (Int))) => (((((some s16.2.1)).bind fun x31 => ((some a19)).bind fun x32 => ((some v_place_26)).bind fun x33 => put_at x31 x32 x33)).bind fun (v_here_34 : List (Int)) => (((((some s16.1)).bind fun x37 => ((((some a19)).bind fun x35 => ((some ([] : List (Int)))).bind fun l36 => some (x35 :: l36))).bind fun x38 => cat? x37 x38)).bind fun (v_settled_39 : List (Int)) => (some (v_settled_39, v_here_34, v_found_27)))))) else (some (s16.1, s16.2.1, s16.2.2)) : Option ((List (Int)) × (List (Int)) × (List ((Int) × (Int))))).bind fun s40 => (some (s40.1, s40.2.1, s40.2.2)))) (v_settled_13, v_here_14, v_found_15) l41).bind fun (s16 : (List (Int)) × (List (Int)) × (List ((Int) × (Int)))) => (((some s16.2.2)).bind fun x42 => some (some x42))))))
def judged (v_order : List (Int)) (v_weights : List (Int)) (v_nailed : List (Int)) (v_plan : List ((Int) × (Int))) : Option (Ans) :=
  (((((some v_order)).bind fun x1 => ((some v_weights)).bind fun x2 => ((some v_nailed)).bind fun x3 => check_three x1 x2 x3)).bind fun x23 => (((((some v_plan)).bind fun x4 => check_plan x4)).bind fun x22 => (((((some v_order)).bind fun x5 => ((some v_weights)).bind fun x6 => ((some v_nailed)).bind fun x7 => ((some v_plan)).bind fun x8 => outcome x5 x6 x7 x8)).bind fun (z9 : (Int) × (Int)) => (((((some z9.1)).bind fun x10 => ((some (0 : Int))).bind fun x11 => some (decide (x11 ≤ x10)))).bind fun b12 => if b12 = true then (((some z9.1)).bind fun x13 => mk_Wrong x13) else (((((some z9.2)).bind fun x15 => ((some (0 : Int))).bind fun x16 => some (decide (x16 < x15)))).bind fun x18 => if x18 = true then (((some z9.2)).bind fun x17 => mk_Dear x17) else (some Ans.thrifty))))))
def round_least (v_order : List (Int)) (v_weights : List (Int)) : Option (Ans) :=
  (((((some v_order)).bind fun x1 => ((some v_weights)).bind fun x2 => ((some (10 : Int))).bind fun x3 => check_all x1 x2 x3)).bind fun x68 => (((((some v_order)).bind fun x4 => ((some v_weights)).bind fun x5 => round_stays x4 x5)).bind fun (v_stays_7 : List (List (Int))) => ((some ([] : List (List ((List (Int)) × (Int)))))).bind fun (v_papers_8 : List (List ((List (Int)) × (Int)))) => ((((some v_order)).bind fun x6 => some (x6.length : Int))).bind fun (v_many_9 : Int) => ((((((some v_many_9)).bind fun x11 => rng? 0 x11)).bind fun l34 => forS (fun (s10 : (List (List ((List (Int)) × (Int))))) (a12 : Int) => (((((((some v_order)).bind fun x13 => ((some a12)).bind fun x14 => read_from x13 x14)).bind fun x17 => ((((some v_weights)).bind fun x15 => ((some a12)).bind fun x16 => weights_from x15 x16)).bind fun x18 => paper x17 x18)).bind fun (v_rows_19 : List ((List (Int)) × (Int))) => (((((some v_rows_19)).bind fun x31 => lc? (fun (a21 : (List (Int)) × (Int)) => (some true)) (fun (a21 : (List (Int)) × (Int)) => (((((some a21.1)).bind fun x27 => lc? (fun (a22 : Int) => (some true)) (fun (a22 : Int) => (((((some a22)).bind fun x23 => ((some a12)).bind fun x24 => some (x23 + x24))).bind fun x25 => ((some v_many_9)).bind fun x26 => fmod? x25 x26)) x27)).bind fun x29 => ((some a21.2)).bind fun x30 => some (x29, x30))) x31)).bind fun x33 => (app? s10 x33).bind fun (v_papers_20 : List (List ((List (Int)) × (Int)))) => (some v_papers_20)))) v_papers_8 l34).bind fun (s10 : (List (List ((List (Int)) × (Int))))) => (((((((some v_stays_7)).bind fun x38 => lc? (fun (a35 : List (Int)) => (some true)) (fun (a35 : List (Int)) => (((some v_weights)).bind fun x36 => ((some a35)).bind fun x37 => weight_of x36 x37)) x38)).bind fun x40 => maxL x40)).bind fun (v_best_41 : Int) => (((((((some v_stays_7)).bind fun x49 => lc? (fun (a42 : List (Int)) => (((((some v_weights)).bind fun x45 => ((some a42)).bind fun x46 => weight_of x45 x46)).bind fun x47 => ((some v_best_41)).bind fun x48 => some (decide (x47 = x48)))) (fun (a42 : List (Int)) => (some a42)) x49)).bind fun x51 => ((some (0 : Int))).bind fun x52 => atI x51 x52)).bind fun x53 => ((some s10)).bind fun x54 => mk_Round x53 x54)))))
def Thrifty_shows (v_self : Ans) (v_order : List (Int)) (v_weights : List (Int)) (v_nailed : List (Int)) (v_plan : List ((Int) × (Int))) : Option (Bool) :=
  (((((some v_order)).bind fun x5 => ((some v_weights)).bind fun x6 => ((some v_nailed)).bind fun x7 => ((some v_plan)).bind fun x8 => outcome x5 x6 x7 x8)).bind fun x12 => ((((((some (1 : Int))).bind fun x9 => some (-x9))).bind fun x10 => ((some (0 : Int))).bind fun x11 => some (x10, x11))).bind fun x13 => some (decide (x12 = x13)))
def Dear_shows (v_self : Ans) (v_order : List (Int)) (v_weights : List (Int)) (v_nailed : List (Int)) (v_plan : List ((Int) × (Int))) : Option (Bool) :=
  (((((((some v_self)).bind fun x1 => Ans.more? x1)).bind fun x2 => ((some (0 : Int))).bind fun x3 => some (decide (x3 < x2)))).bind fun x18 => if x18 = true then (((((some v_order)).bind fun x8 => ((some v_weights)).bind fun x9 => ((some v_nailed)).bind fun x10 => ((some v_plan)).bind fun x11 => outcome x8 x9 x10 x11)).bind fun x16 => ((((((some (1 : Int))).bind fun x12 => some (-x12))).bind fun x14 => ((((some v_self)).bind fun x13 => Ans.more? x13)).bind fun x15 => some (x14, x15))).bind fun x17 => some (decide (x16 = x17))) else some false)
def Wrong_shows (v_self : Ans) (v_order : List (Int)) (v_weights : List (Int)) (v_nailed : List (Int)) (v_plan : List ((Int) × (Int))) : Option (Bool) :=
  (((((((some v_self)).bind fun x1 => Ans.step? x1)).bind fun x2 => ((some (0 : Int))).bind fun x3 => some (decide (x3 ≤ x2)))).bind fun x17 => if x17 = true then (((((((some v_order)).bind fun x9 => ((some v_weights)).bind fun x10 => ((some v_nailed)).bind fun x11 => ((some v_plan)).bind fun x12 => outcome x9 x10 x11 x12)).bind fun x13 => some x13.1)).bind fun x15 => ((((some v_self)).bind fun x14 => Ans.step? x14)).bind fun x16 => some (decide (x15 = x16))) else some false)
def ms_shows_4 (c : Nat) : (Ans) → (List (Int)) → (List (Int)) → (List (Int)) → (List ((Int) × (Int))) → Option (Bool) :=
  if c = 2 then Thrifty_shows else if c = 3 then Dear_shows else Wrong_shows
def Shelf_owed (v_self : Shf) : Option (Option (Int)) :=
  (((((some v_self)).bind fun x1 => some x1.books)).bind fun x4 => ((((some v_self)).bind fun x2 => some x2.weights)).bind fun x5 => ((((some v_self)).bind fun x3 => some x3.nailed)).bind fun x6 => owed_by x4 x5 x6)
def ms_owed_0 (c : Nat) : (Shf) → Option (Option (Int)) :=
  Shelf_owed
def _law_nailed (v_script : Scr) (v_by : Int) (v_many : Int) : Option (List (Int)) :=
  (((((((some v_script)).bind fun x1 => some (!decide (x1.ns = [])))).bind fun x8 => if x8 = true then (((some v_script)).bind fun x4 => ((some (63 : Int))).bind fun x5 => some (cut x4.ns none (some x5))) else (((some (5 : Int))).bind fun x6 => ((some ([] : List (Int)))).bind fun l7 => some (x6 :: l7)))).bind fun (v_cells_9 : List (Int)) => (((((((some v_cells_9)).bind fun x11 => some x11.sum)).bind fun x12 => ((some v_by)).bind fun x13 => some (x12 + x13))).bind fun (v_whole_14 : Int) => (((((((((some v_whole_14)).bind fun x17 => ((((some v_by)).bind fun x15 => ((some (1 : Int))).bind fun x16 => some (x15 + x16))).bind fun x18 => ((some (3 : Int))).bind fun x19 => _law_number x17 x18 x19)).bind fun x20 => ((some (3240 : Int))).bind fun x21 => fdiv? x20 x21)).bind fun x22 => ((some (4 : Int))).bind fun x23 => fmod? x22 x23)).bind fun (v_kind_24 : Int) => (((((((((((((some (0 : Int))).bind fun x31 => ((((some (1 : Int))).bind fun x29 => ((((some (2 : Int))).bind fun x27 => ((((some (4 : Int))).bind fun x25 => ((some ([] : List (Int)))).bind fun l26 => some (x25 :: l26))).bind fun l28 => some (x27 :: l28))).bind fun l30 => some (x29 :: l30))).bind fun l32 => some (x31 :: l32))).bind fun x33 => some (Tu.mk x33))).bind fun x34 => ((some v_kind_24)).bind fun x35 => atI x34.xs x35)).bind fun x36 => rng? 0 x36)).bind fun x59 => lc? (fun (a37 : Int) => (some true)) (fun (a37 : Int) => (((((((((((some v_cells_9)).bind fun x46 => ((((some a37)).bind fun x44 => ((((some v_cells_9)).bind fun x43 => some (x43.length : Int))).bind fun x45 => fmod? x44 x45)).bind fun x47 => atI x46 x47)).bind fun x48 => ((some a37)).bind fun x49 => some (x48 + x49))).bind fun x52 => ((((some a37)).bind fun x50 => ((some (7 : Int))).bind fun x51 => some (x50 + x51))).bind fun x53 => ((some v_whole_14)).bind fun x54 => _law_number x52 x53 x54)).bind fun x55 => ((some (3 : Int))).bind fun x56 => fdiv? x55 x56)).bind fun x57 => ((some v_many)).bind fun x58 => fmod? x57 x58)) x59)).bind fun (v_found_61 : List (Int)) => (((some v_found_61)).bind fun x62 => sset? x62)))))
def _law_right_two (v_order_here : List (Int)) (v_one : Int) (v_other : Int) : Option (Bool) :=
  (((((some v_one)).bind fun x1 => ((some v_other)).bind fun x2 => some (decide (x1 = x2)))).bind fun x19 => if x19 = true then some true else (((((((some v_order_here)).bind fun x9 => ((some v_one)).bind fun x10 => idx? x9 x10)).bind fun x13 => ((((some v_order_here)).bind fun x11 => ((some v_other)).bind fun x12 => idx? x11 x12)).bind fun x14 => some (decide (x13 < x14)))).bind fun x17 => ((((some v_one)).bind fun x15 => ((some v_other)).bind fun x16 => some (decide (x15 < x16)))).bind fun x18 => some (decide (x17 = x18))))
def _law_clash (v_order_here : List (Int)) (v_nailed_here : List (Int)) : Option (Bool) :=
  ((((some v_nailed_here)).bind fun l13 => forB (β := Bool) (fun (s1 : Unit) (a2 : Int) => (((((((((some v_nailed_here)).bind fun x7 => lc? (fun (a3 : Int) => (some true)) (fun (a3 : Int) => (((some v_order_here)).bind fun x4 => ((some a2)).bind fun x5 => ((some a3)).bind fun x6 => _law_right_two x4 x5 x6)) x7)).bind fun x9 => some (x9.all id))).bind fun x10 => some (!x10))).bind fun b11 => if b11 = true then ((some true)).bind (fun x12 => some (Rr.rt x12)) else (some (Rr.nx ())))) () l13).bind (Rr.goR fun (s1 : Unit) => (some false)))
def _law_free (v_order_here : List (Int)) (v_nailed_here : List (Int)) : Option (List (Int)) :=
  (((some v_order_here)).bind fun x9 => lc? (fun (a1 : Int) => (((((some v_nailed_here)).bind fun x6 => lc? (fun (a2 : Int) => (some true)) (fun (a2 : Int) => (((some v_order_here)).bind fun x3 => ((some a1)).bind fun x4 => ((some a2)).bind fun x5 => _law_right_two x3 x4 x5)) x6)).bind fun x8 => some (x8.all id))) (fun (a1 : Int) => (some a1)) x9)
def _law_tall (v_order_here : List (Int)) (v_weights_here : List (Int)) : Option (Int) :=
  (((some ([] : List (Int)))).bind fun (v_found_1 : List (Int)) => ((((((some v_order_here)).bind fun x3 => some (enumL x3))).bind fun l27 => forS (fun (s2 : (List (Int))) (a4 : (Int) × (Int)) => (((((((some v_weights_here)).bind fun x8 => ((some a4.2)).bind fun x9 => atI x8 x9)).bind fun x24 => ((((((((some (0 : Int))).bind fun x10 => ((some ([] : List (Int)))).bind fun l11 => some (x10 :: l11))).bind fun x21 => ((((((some a4.1)).bind fun x12 => rng? 0 x12)).bind fun x19 => lc? (fun (a13 : Int) => (((((some v_order_here)).bind fun x14 => ((some a13)).bind fun x15 => atI x14 x15)).bind fun x16 => ((some a4.2)).bind fun x17 => some (decide (x16 < x17)))) (fun (a13 : Int) => (((some a13)).bind fun x18 => atI s2 x18)) x19)).bind fun x22 => cat? x21 x22)).bind fun x23 => maxL x23)).bind fun x25 => some (x24 + x25))).bind fun x26 => (app? s2 x26).bind fun (v_found_5 : List (Int)) => (some v_found_5))) v_found_1 l27).bind fun (s2 : (List (Int))) => (((((((some (0 : Int))).bind fun x28 => ((some ([] : List (Int)))).bind fun l29 => some (x28 :: l29))).bind fun x30 => ((some s2)).bind fun x31 => cat? x30 x31)).bind fun x32 => maxL x32)))
def _law_owed (v_order_here : List (Int)) (v_weights_here : List (Int)) (v_nailed_here : List (Int)) : Option (Int) :=
  (((((some v_order_here)).bind fun x1 => ((some v_nailed_here)).bind fun x2 => _law_clash x1 x2)).bind fun b3 => if b3 = true then (((some (1 : Int))).bind fun x4 => some (-x4)) else (((((some v_weights_here)).bind fun x5 => some x5.sum)).bind fun x10 => ((((((some v_order_here)).bind fun x6 => ((some v_nailed_here)).bind fun x7 => _law_free x6 x7)).bind fun x8 => ((some v_weights_here)).bind fun x9 => _law_tall x8 x9)).bind fun x11 => some (x10 - x11)))
def _law_says (v_said : Bool) (v_due : Bool) : Option (Bool) :=
  (((((some v_said)).bind fun _ => some true)).bind fun x3 => if x3 = true then (((some v_said)).bind fun x1 => ((some v_due)).bind fun x2 => some (decide (x1 = x2))) else some false)
def _law_outcome (v_order_here : List (Int)) (v_weights_here : List (Int)) (v_nailed_here : List (Int)) (v_plan : List ((Int) × (Int))) : Option ((Int) × (Int)) :=
  (((((some v_order_here)).bind fun x1 => some x1)).bind fun (v_here_2 : List (Int)) => ((some (0 : Int))).bind fun (v_cost_3 : Int) => ((((((some v_plan)).bind fun x5 => some (enumL x5))).bind fun l60 => forB (β := (Int) × (Int)) (fun (s4 : (List (Int)) × (Int)) (a6 : (Int) × ((Int) × (Int))) => (((((((some a6.2.1)).bind fun x7 => ((some s4.1)).bind fun x8 => some (!decide (x7 ∈ x8)))).bind fun x17 => if x17 = true then some true else (((((some a6.2.1)).bind fun x9 => ((some v_nailed_here)).bind fun x10 => some (decide (x9 ∈ x10)))).bind fun x16 => if x16 = true then some true else (((((some (0 : Int))).bind fun x12 => ((some a6.2.2)).bind fun x13 => if decide (x12 ≤ x13) = true then ((((some s4.1)).bind fun x11 => some (x11.length : Int))).bind fun x14 => some (decide (x13 < x14)) else some false)).bind fun x15 => some (!x15))))).bind fun b18 => if b18 = true then ((((some a6.1)).bind fun x19 => ((some (0 : Int))).bind fun x20 => some (x19, x20))).bind (fun x59 => some (Rr.rt x59)) else (((((some s4.1)).bind fun x24 => lc? (fun (a21 : Int) => (((some a21)).bind fun x22 => ((some a6.2.1)).bind fun x23 => some (!decide (x22 = x23)))) (fun (a21 : Int) => (some a21)) x24)).bind fun (v_rest_26 : List (Int)) => (((((((((some v_rest_26)).bind fun x40 => ((some (none : Option Int))).bind fun x41 => ((((some a6.2.2)).bind fun x39 => some (some x39))).bind fun x42 => some (cut x40 x41 x42))).bind fun x45 => ((((some a6.2.1)).bind fun x43 => ((some ([] : List (Int)))).bind fun l44 => some (x43 :: l44))).bind fun x46 => cat? x45 x46)).bind fun x51 => ((((some v_rest_26)).bind fun x48 => ((((some a6.2.2)).bind fun x47 => some (some x47))).bind fun x49 => ((some (none : Option Int))).bind fun x50 => some (cut x48 x49 x50))).bind fun x52 => cat? x51 x52)).bind fun (v_here_53 : List (Int)) => (((((some s4.2)).bind fun x56 => ((((some v_weights_here)).bind fun x54 => ((some a6.2.1)).bind fun x55 => atI x54 x55)).bind fun x57 => some (x56 + x57))).bind fun (v_cost_58 : Int) => (some (Rr.nx (v_here_53, v_cost_58)))))))) (v_here_2, v_cost_3) l60).bind (Rr.goR fun (s4 : (List (Int)) × (Int)) => (((((some s4.1)).bind fun x62 => ((((some s4.1)).bind fun x61 => sort? x61)).bind fun x63 => some (decide (x62 = x63)))).bind fun x70 => if x70 = true then (((((some (1 : Int))).bind fun x64 => some (-x64))).bind fun x65 => ((some s4.2)).bind fun x66 => some (x65, x66)) else (((((some v_plan)).bind fun x67 => some (x67.length : Int))).bind fun x68 => ((some (0 : Int))).bind fun x69 => some (x68, x69))))))
def _law_plans (v_script : Scr) (v_by : Int) (v_order_here : List (Int)) (v_weights_here : List (Int)) (v_nailed_here : List (Int)) (v_told : List ((Int) × (Int))) : Option (List (List ((Int) × (Int)))) :=
  (((((((some v_script)).bind fun x1 => some (!decide (x1.ns = [])))).bind fun x8 => if x8 = true then (((some v_script)).bind fun x4 => ((some (63 : Int))).bind fun x5 => some (cut x4.ns none (some x5))) else (((some (5 : Int))).bind fun x6 => ((some ([] : List (Int)))).bind fun l7 => some (x6 :: l7)))).bind fun (v_cells_9 : List (Int)) => (((((((some v_cells_9)).bind fun x11 => some x11.sum)).bind fun x12 => ((some v_by)).bind fun x13 => some (x12 + x13))).bind fun (v_whole_15 : Int) => ((((some v_order_here)).bind fun x14 => some (x14.length : Int))).bind fun (v_many_16 : Int) => ((some ([] : List ((Int) × (Int))))).bind fun (v_drawn_17 : List ((Int) × (Int))) => ((((((((some v_whole_15)).bind fun x19 => ((some (9 : Int))).bind fun x20 => fmod? x19 x20)).bind fun x21 => rng? 0 x21)).bind fun l57 => forS (fun (s18 : (List ((Int) × (Int)))) (a22 : Int) => (((((((((((some v_cells_9)).bind fun x35 => ((((((some a22)).bind fun x30 => ((some v_by)).bind fun x31 => some (x30 + x31))).bind fun x33 => ((((some v_cells_9)).bind fun x32 => some (x32.length : Int))).bind fun x34 => fmod? x33 x34)).bind fun x36 => atI x35 x36)).bind fun x37 => ((some a22)).bind fun x38 => some (x37 + x38))).bind fun x41 => ((((some a22)).bind fun x39 => ((some v_by)).bind fun x40 => some (x39 + x40))).bind fun x42 => ((some v_whole_15)).bind fun x43 => _law_number x41 x42 x43)).bind fun x44 => ((some (3 : Int))).bind fun x45 => fdiv? x44 x45)).bind fun (v_number_here_46 : Int) => (((((((some v_number_here_46)).bind fun x48 => ((some v_many_16)).bind fun x49 => fmod? x48 x49)).bind fun x54 => ((((((some v_number_here_46)).bind fun x50 => ((some (24 : Int))).bind fun x51 => fdiv? x50 x51)).bind fun x52 => ((some v_many_16)).bind fun x53 => fmod? x52 x53)).bind fun x55 => some (x54, x55))).bind fun x56 => (app? s18 x56).bind fun (v_drawn_47 : List ((Int) × (Int))) => (some v_drawn_47)))) v_drawn_17 l57).bind fun (s18 : (List ((Int) × (Int)))) => (((((some v_told)).bind fun x95 => ((((some ([] : List ((Int) × (Int))))).bind fun x93 => ((((some s18)).bind fun x91 => ((((((some s18)).bind fun x58 => ((some v_told)).bind fun x59 => cat? x58 x59)).bind fun x89 => ((((((some v_told)).bind fun x65 => ((((some v_told)).bind fun x62 => ((((((some (1 : Int))).bind fun x60 => some (-x60))).bind fun x61 => some (some x61))).bind fun x63 => ((some (none : Option Int))).bind fun x64 => some (cut x62 x63 x64))).bind fun x66 => cat? x65 x66)).bind fun x87 => ((((((some v_told)).bind fun x71 => ((((((some (0 : Int))).bind fun x67 => ((some (0 : Int))).bind fun x68 => some (x67, x68))).bind fun x69 => ((some ([] : List ((Int) × (Int))))).bind fun l70 => some (x69 :: l70))).bind fun x72 => cat? x71 x72)).bind fun x85 => ((((((((((((some v_many_16)).bind fun x73 => ((some (1 : Int))).bind fun x74 => some (x73 - x74))).bind fun x77 => ((((some v_many_16)).bind fun x75 => ((some (1 : Int))).bind fun x76 => some (x75 - x76))).bind fun x78 => some (x77, x78))).bind fun x79 => ((some ([] : List ((Int) × (Int))))).bind fun l80 => some (x79 :: l80))).bind fun x81 => ((some v_told)).bind fun x82 => cat? x81 x82)).bind fun x83 => ((some ([] : List (List ((Int) × (Int)))))).bind fun l84 => some (x83 :: l84))).bind fun l86 => some (x85 :: l86))).bind fun l88 => some (x87 :: l88))).bind fun l90 => some (x89 :: l90))).bind fun l92 => some (x91 :: l92))).bind fun l94 => some (x93 :: l94))).bind fun l96 => some (x95 :: l96))).bind fun (v_found_97 : List (List ((Int) × (Int)))) => ((((((((((((((some v_whole_15)).bind fun x106 => ((some (9 : Int))).bind fun x107 => fdiv? x106 x107)).bind fun x111 => ((((some (1 : Int))).bind fun x109 => ((((some v_told)).bind fun x108 => some (x108.length : Int))).bind fun x110 => some (if x110 > x109 then x110 else x109))).bind fun x112 => fmod? x111 x112)).bind fun x118 => ((((((((some v_told)).bind fun x113 => some (x113.length : Int))).bind fun x114 => ((some (1 : Int))).bind fun x115 => some (x114 - x115))).bind fun x116 => ((some ([] : List (Int)))).bind fun l117 => some (x116 :: l117))).bind fun l119 => some (x118 :: l119))).bind fun x120 => some (Tu.mk x120))).bind fun x121 => some x121.xs)).bind fun l229 => forS (fun (s98 : (List (List ((Int) × (Int))))) (a122 : Int) => ((((((some v_told)).bind fun x123 => ((some ([] : List ((Int) × (Int))))).bind fun x124 => some (!decide (x123 = x124)))).bind fun b125 => if b125 = true then (((((some v_told)).bind fun x126 => ((some a122)).bind fun x127 => atI x126 x127)).bind fun (z128 : (Int) × (Int)) => (((((some s98)).bind fun x157 => ((((((((some v_told)).bind fun x130 => ((some (none : Option Int))).bind fun x131 => ((((some a122)).bind fun x129 => some (some x129))).bind fun x132 => some (cut x130 x131 x132))).bind fun x139 => ((((some v_told)).bind fun x136 => ((((((some a122)).bind fun x133 => ((some (1 : Int))).bind fun x134 => some (x133 + x134))).bind fun x135 => some (some x135))).bind fun x137 => ((some (none : Option Int))).bind fun x138 => some (cut x136 x137 x138))).bind fun x140 => cat? x139 x140)).bind fun x155 => ((((((((some v_told)).bind fun x144 => ((some (none : Option Int))).bind fun x145 => ((((((some a122)).bind fun x141 => ((some (1 : Int))).bind fun x142 => some (x141 + x142))).bind fun x143 => some (some x143))).bind fun x146 => some (cut x144 x145 x146))).bind fun x151 => ((((some v_told)).bind fun x148 => ((((some a122)).bind fun x147 => some (some x147))).bind fun x149 => ((some (none : Option Int))).bind fun x150 => some (cut x148 x149 x150))).bind fun x152 => cat? x151 x152)).bind fun x153 => ((some ([] : List (List ((Int) × (Int)))))).bind fun l154 => some (x153 :: l154))).bind fun l156 => some (x155 :: l156))).bind fun x158 => cat? x157 x158)).bind fun (v_found_159 : List (List ((Int) × (Int)))) => (((((((some z128.1)).bind fun x162 => ((((some z128.2)).bind fun x160 => ((some (1 : Int))).bind fun x161 => some (x160 + x161))).bind fun x163 => some (x162, x163))).bind fun x180 => ((((((some z128.1)).bind fun x166 => ((((some z128.2)).bind fun x164 => ((some (1 : Int))).bind fun x165 => some (x164 - x165))).bind fun x167 => some (x166, x167))).bind fun x178 => ((((((((some z128.1)).bind fun x168 => ((some (1 : Int))).bind fun x169 => some (x168 + x169))).bind fun x170 => ((some z128.2)).bind fun x171 => some (x170, x171))).bind fun x176 => ((((((some z128.2)).bind fun x172 => ((some z128.1)).bind fun x173 => some (x172, x173))).bind fun x174 => ((some ([] : List ((Int) × (Int))))).bind fun l175 => some (x174 :: l175))).bind fun l177 => some (x176 :: l177))).bind fun l179 => some (x178 :: l179))).bind fun l181 => some (x180 :: l181))).bind fun (v_rows_182 : List ((Int) × (Int))) => (((((some v_rows_182)).bind fun x203 => ((((((((some (1 : Int))).bind fun x183 => some (-x183))).bind fun x184 => ((some (0 : Int))).bind fun x185 => some (x184, x185))).bind fun x201 => ((((((some z128.1)).bind fun x186 => ((some v_many_16)).bind fun x187 => some (x186, x187))).bind fun x199 => ((((((((some (10 : Int))).bind fun x188 => ((some (20 : Int))).bind fun x189 => pow? x188 x189)).bind fun x190 => ((some (0 : Int))).bind fun x191 => some (x190, x191))).bind fun x197 => ((((((some z128.1)).bind fun x193 => ((((some (1 : Int))).bind fun x192 => some (-x192))).bind fun x194 => some (x193, x194))).bind fun x195 => ((some ([] : List ((Int) × (Int))))).bind fun l196 => some (x195 :: l196))).bind fun l198 => some (x197 :: l198))).bind fun l200 => some (x199 :: l200))).bind fun l202 => some (x201 :: l202))).bind fun x204 => cat? x203 x204)).bind fun (v_rows_205 : List ((Int) × (Int))) => (((((some v_found_159)).bind fun x225 => ((((some v_rows_205)).bind fun x223 => lc? (fun (a206 : (Int) × (Int)) => (some true)) (fun (a206 : (Int) × (Int)) => (((((((some v_told)).bind fun x208 => ((some (none : Option Int))).bind fun x209 => ((((some a122)).bind fun x207 => some (some x207))).bind fun x210 => some (cut x208 x209 x210))).bind fun x213 => ((((some a206)).bind fun x211 => ((some ([] : List ((Int) × (Int))))).bind fun l212 => some (x211 :: l212))).bind fun x214 => cat? x213 x214)).bind fun x221 => ((((some v_told)).bind fun x218 => ((((((some a122)).bind fun x215 => ((some (1 : Int))).bind fun x216 => some (x215 + x216))).bind fun x217 => some (some x217))).bind fun x219 => ((some (none : Option Int))).bind fun x220 => some (cut x218 x219 x220))).bind fun x222 => cat? x221 x222)) x223)).bind fun x226 => cat? x225 x226)).bind fun (v_found_227 : List (List ((Int) × (Int)))) => (some v_found_227)))))) else (some s98) : Option ((List (List ((Int) × (Int)))))).bind fun s228 => (some s228))) v_found_97 l229).bind fun (s98 : (List (List ((Int) × (Int))))) => (((some s98)).bind fun x234 => lc? (fun (a230 : List ((Int) × (Int))) => (((((some a230)).bind fun x231 => some (x231.length : Int))).bind fun x232 => ((some (61 : Int))).bind fun x233 => some (decide (x232 < x233)))) (fun (a230 : List ((Int) × (Int))) => (some a230)) x234))))))
def _law_whole (v_found : Int) : Option (Bool) :=
  (((((some v_found)).bind fun _ => some true)).bind fun x2 => if x2 = true then (((((some v_found)).bind fun _ => some false)).bind fun x1 => some (!x1)) else some false)
def bears (v_order : List (Int)) (v_weights : List (Int)) (v_rows : List ((List (Int)) × (Int))) : Option (Int) :=
  (((some ([] : List (Int × Int)))).bind fun (v_borne_1 : List (Int × Int)) => ((some (0 : Int))).bind fun (v_whole_2 : Int) => ((((some v_rows)).bind fun l41 => forB (β := Int) (fun (s3 : (List (Int × Int)) × (Int)) (a4 : (List (Int)) × (Int)) => (((((((some a4.2)).bind fun x5 => ((some (1 : Int))).bind fun x6 => some (decide (x5 < x6)))).bind fun x23 => if x23 = true then some true else (((((((some v_order)).bind fun x7 => ((some a4.1)).bind fun x8 => are_in x7 x8)).bind fun x9 => some (!x9))).bind fun x22 => if x22 = true then some true else (((((((some a4.1)).bind fun x14 => ((((some a4.1)).bind fun x11 => ((((some (1 : Int))).bind fun x10 => some (some x10))).bind fun x12 => ((some (none : Option Int))).bind fun x13 => some (cut x11 x12 x13))).bind fun x15 => some (List.zip x14 x15))).bind fun x19 => lc? (fun (a16 : (Int) × (Int)) => (some true)) (fun (a16 : (Int) × (Int)) => (((some a16.1)).bind fun x17 => ((some a16.2)).bind fun x18 => some (decide (x17 ≤ x18)))) x19)).bind fun x21 => some (x21.any id))))).bind fun b24 => if b24 = true then ((((some (1 : Int))).bind fun x25 => some (-x25))).bind (fun x40 => some (Rr.rt x40)) else (((some a4.2)).bind fun x26 => (some (s3.2 + x26)).bind fun (v_whole_27 : Int) => ((((some a4.1)).bind fun l39 => forS (fun (s28 : (List (Int × Int))) (a29 : Int) => (((((((some a29)).bind fun x32 => ((some (0 : Int))).bind fun x33 => some (getD s28 x32 x33))).bind fun x34 => ((some a4.2)).bind fun x35 => some (x34 + x35))).bind fun x36 => ((some a29)).bind fun x37 => (putD? s28 x37 x36).bind fun (v_borne_38 : List (Int × Int)) => (some v_borne_38))) s3.1 l39).bind fun (s28 : (List (Int × Int))) => (some (Rr.nx (s28, v_whole_27))))))) (v_borne_1, v_whole_2) l41).bind (Rr.goR fun (s3 : (List (Int × Int)) × (Int)) => (((((((some v_order)).bind fun x49 => lc? (fun (a42 : Int) => (some true)) (fun (a42 : Int) => (((((some a42)).bind fun x43 => ((some (0 : Int))).bind fun x44 => some (getD s3.1 x43 x44))).bind fun x47 => ((((some v_weights)).bind fun x45 => ((some a42)).bind fun x46 => atI x45 x46)).bind fun x48 => some (decide (x47 < x48)))) x49)).bind fun x51 => some (x51.any id))).bind fun b52 => if b52 = true then (((some (1 : Int))).bind fun x53 => some (-x53)) else (some s3.2)))))
def Least_shows (v_self : Ans) (v_order : List (Int)) (v_weights : List (Int)) (v_nailed : List (Int)) : Option (Bool) :=
  (((((((((some v_order)).bind fun x2 => ((((some v_self)).bind fun x1 => Ans.stay? x1)).bind fun x3 => is_staying x2 x3)).bind fun x4 => some (!x4))).bind fun x13 => if x13 = true then some true else (((((((some v_nailed)).bind fun x9 => lc? (fun (a5 : Int) => (some true)) (fun (a5 : Int) => (((some a5)).bind fun x7 => ((((some v_self)).bind fun x6 => Ans.stay? x6)).bind fun x8 => some (decide (x7 ∈ x8)))) x9)).bind fun x11 => some (x11.all id))).bind fun x12 => some (!x12)))).bind fun b14 => if b14 = true then (some false) else (((((((some v_order)).bind fun x21 => ((some v_nailed)).bind fun x22 => free_ones x21 x22)).bind fun x24 => ((some v_weights)).bind fun x25 => ((((some v_self)).bind fun x23 => Ans.rows? x23)).bind fun x26 => bears x24 x25 x26)).bind fun x30 => ((((some v_weights)).bind fun x28 => ((((some v_self)).bind fun x27 => Ans.stay? x27)).bind fun x29 => weight_of x28 x29)).bind fun x31 => some (decide (x30 = x31))))
def Stuck_shows (v_self : Ans) (v_order : List (Int)) (v_weights : List (Int)) (v_nailed : List (Int)) : Option (Bool) :=
  (((((((((some v_self)).bind fun x1 => Ans.one? x1)).bind fun x2 => ((some v_nailed)).bind fun x3 => some (!decide (x2 ∈ x3)))).bind fun x12 => if x12 = true then some true else (((((((some v_self)).bind fun x4 => Ans.other? x4)).bind fun x5 => ((some v_nailed)).bind fun x6 => some (!decide (x5 ∈ x6)))).bind fun x11 => if x11 = true then some true else (((((some v_self)).bind fun x7 => Ans.one? x7)).bind fun x9 => ((((some v_self)).bind fun x8 => Ans.other? x8)).bind fun x10 => some (decide (x10 ≤ x9)))))).bind fun b13 => if b13 = true then (some false) else (((((some v_order)).bind fun x15 => ((((some v_self)).bind fun x14 => Ans.one? x14)).bind fun x16 => idx? x15 x16)).bind fun x20 => ((((some v_order)).bind fun x18 => ((((some v_self)).bind fun x17 => Ans.other? x17)).bind fun x19 => idx? x18 x19)).bind fun x21 => some (decide (x21 < x20))))
def ms_shows_3 (c : Nat) : (Ans) → (List (Int)) → (List (Int)) → (List (Int)) → Option (Bool) :=
  if c = 0 then Least_shows else Stuck_shows
def _law_stand (v_order_here : List (Int)) (v_books : List (Int)) : Option (Bool) :=
  (((((((some v_books)).bind fun x4 => lc? (fun (a1 : Int) => (some true)) (fun (a1 : Int) => (((some a1)).bind fun x2 => ((some v_order_here)).bind fun x3 => some (!decide (x2 ∈ x3)))) x4)).bind fun x6 => some (x6.any id))).bind fun b7 => if b7 = true then (some false) else (((((some v_books)).bind fun x11 => lc? (fun (a8 : Int) => (some true)) (fun (a8 : Int) => (((some v_order_here)).bind fun x9 => ((some a8)).bind fun x10 => idx? x9 x10)) x11)).bind fun (v_places_13 : List (Int)) => (((some v_places_13)).bind fun x15 => ((((some v_places_13)).bind fun x14 => sset? x14)).bind fun x16 => some (decide (x15 = x16)))))
def _law_bears (v_order_here : List (Int)) (v_weights_here : List (Int)) (v_rows : List ((List (Int)) × (Int))) : Option (Int) :=
  (((((((some (0 : Int))).bind fun x1 => ((some ([] : List (Int)))).bind fun l2 => some (x1 :: l2))).bind fun x4 => ((((some v_weights_here)).bind fun x3 => some (x3.length : Int))).bind fun x5 => rep? x4 x5)).bind fun (v_borne_6 : List (Int)) => ((some (0 : Int))).bind fun (v_whole_here_7 : Int) => ((((some v_rows)).bind fun l37 => forB (β := Int) (fun (s8 : (List (Int)) × (Int)) (a9 : (List (Int)) × (Int)) => (((((((some a9.2)).bind fun x10 => ((some (1 : Int))).bind fun x11 => some (decide (x10 < x11)))).bind fun x20 => if x20 = true then some true else (((((((some v_order_here)).bind fun x12 => ((some a9.1)).bind fun x13 => _law_stand x12 x13)).bind fun x14 => some (!x14))).bind fun x19 => if x19 = true then some true else (((some a9.1)).bind fun x17 => ((((((some a9.1)).bind fun x15 => sset? x15)).bind fun x16 => some x16.reverse)).bind fun x18 => some (!decide (x17 = x18)))))).bind fun b21 => if b21 = true then ((((some (1 : Int))).bind fun x22 => some (-x22))).bind (fun x36 => some (Rr.rt x36)) else (((((some s8.2)).bind fun x23 => ((some a9.2)).bind fun x24 => some (x23 + x24))).bind fun (v_whole_here_25 : Int) => ((((some a9.1)).bind fun l35 => forS (fun (s26 : (List (Int))) (a27 : Int) => (((((((some a27)).bind fun x29 => atI s26 x29)).bind fun x30 => ((some a9.2)).bind fun x31 => some (x30 + x31))).bind fun x32 => ((some a27)).bind fun x33 => (seti? s26 x33 x32).bind fun (v_borne_34 : List (Int)) => (some v_borne_34))) s8.1 l35).bind fun (s26 : (List (Int))) => (some (Rr.nx (s26, v_whole_here_25))))))) (v_borne_6, v_whole_here_7) l37).bind (Rr.goR fun (s8 : (List (Int)) × (Int)) => (((((((some v_order_here)).bind fun x44 => lc? (fun (a38 : Int) => (some true)) (fun (a38 : Int) => (((((some a38)).bind fun x39 => atI s8.1 x39)).bind fun x42 => ((((some v_weights_here)).bind fun x40 => ((some a38)).bind fun x41 => atI x40 x41)).bind fun x43 => some (decide (x43 ≤ x42)))) x44)).bind fun x46 => some (x46.all id))).bind fun x48 => if x48 = true then (some s8.2) else (((some (1 : Int))).bind fun x47 => some (-x47))))))
def _law_is_least (v_order_here : List (Int)) (v_weights_here : List (Int)) (v_nailed_here : List (Int)) (v_stay : List (Int)) (v_rows : List ((List (Int)) × (Int))) : Option (Bool) :=
  (((((((some v_stay)).bind fun x2 => ((((some v_stay)).bind fun x1 => sset? x1)).bind fun x3 => some (!decide (x2 = x3)))).bind fun x14 => if x14 = true then some true else (((((((some v_order_here)).bind fun x4 => ((some v_stay)).bind fun x5 => _law_stand x4 x5)).bind fun x6 => some (!x6))).bind fun x13 => if x13 = true then some true else (((((some v_nailed_here)).bind fun x10 => lc? (fun (a7 : Int) => (some true)) (fun (a7 : Int) => (((some a7)).bind fun x8 => ((some v_stay)).bind fun x9 => some (!decide (x8 ∈ x9)))) x10)).bind fun x12 => some (x12.any id))))).bind fun b15 => if b15 = true then (some false) else (((((((some v_order_here)).bind fun x21 => ((some v_nailed_here)).bind fun x22 => _law_free x21 x22)).bind fun x23 => ((some v_weights_here)).bind fun x24 => ((some v_rows)).bind fun x25 => _law_bears x23 x24 x25)).bind fun x32 => ((((((some v_stay)).bind fun x29 => lc? (fun (a26 : Int) => (some true)) (fun (a26 : Int) => (((some v_weights_here)).bind fun x27 => ((some a26)).bind fun x28 => atI x27 x28)) x29)).bind fun x31 => some x31.sum)).bind fun x33 => some (decide (x32 = x33))))
def _law_is_stuck (v_order_here : List (Int)) (v_nailed_here : List (Int)) (v_one : Int) (v_other : Int) : Option (Bool) :=
  (((((some v_one)).bind fun x1 => ((some v_nailed_here)).bind fun x2 => some (decide (x1 ∈ x2)))).bind fun x15 => if x15 = true then (((((some v_other)).bind fun x3 => ((some v_nailed_here)).bind fun x4 => some (decide (x3 ∈ x4)))).bind fun x14 => if x14 = true then (((((some v_one)).bind fun x5 => ((some v_other)).bind fun x6 => some (decide (x5 < x6)))).bind fun x13 => if x13 = true then (((((some v_order_here)).bind fun x7 => ((some v_one)).bind fun x8 => idx? x7 x8)).bind fun x11 => ((((some v_order_here)).bind fun x9 => ((some v_other)).bind fun x10 => idx? x9 x10)).bind fun x12 => some (decide (x12 < x11))) else some false) else some false) else some false)
def is_round (v_order : List (Int)) (v_books : List (Int)) : Option (Bool) :=
  (((((((some v_books)).bind fun x1 => ((some ([] : List (Int)))).bind fun x2 => some (decide (x1 = x2)))).bind fun x10 => if x10 = true then some true else (((((((some v_books)).bind fun x6 => lc? (fun (a3 : Int) => (some true)) (fun (a3 : Int) => (((some a3)).bind fun x4 => ((some v_order)).bind fun x5 => some (decide (x4 ∈ x5)))) x6)).bind fun x8 => some (x8.all id))).bind fun x9 => some (!x9)))).bind fun b11 => if b11 = true then (some false) else (((((some v_order)).bind fun x12 => some (x12.length : Int))).bind fun (v_many_13 : Int) => (((((some v_order)).bind fun x16 => ((((some v_books)).bind fun x14 => ((some (0 : Int))).bind fun x15 => atI x14 x15)).bind fun x17 => read_from x16 x17)).bind fun x27 => ((((some v_books)).bind fun x25 => lc? (fun (a18 : Int) => (some true)) (fun (a18 : Int) => (((((some a18)).bind fun x21 => ((((some v_books)).bind fun x19 => ((some (0 : Int))).bind fun x20 => atI x19 x20)).bind fun x22 => some (x21 - x22))).bind fun x23 => ((some v_many_13)).bind fun x24 => fmod? x23 x24)) x25)).bind fun x28 => is_staying x27 x28)))
def Round_shows (v_self : Ans) (v_order : List (Int)) (v_weights : List (Int)) : Option (Bool) :=
  (((((((((some v_order)).bind fun x2 => ((((some v_self)).bind fun x1 => Ans.stay? x1)).bind fun x3 => is_round x2 x3)).bind fun x4 => some (!x4))).bind fun x12 => if x12 = true then some true else (((((((some v_self)).bind fun x7 => Ans.papers? x7)).bind fun x8 => some (x8.length : Int))).bind fun x10 => ((((some v_order)).bind fun x9 => some (x9.length : Int))).bind fun x11 => some (!decide (x10 = x11))))).bind fun b13 => if b13 = true then (some false) else (((((some v_weights)).bind fun x15 => ((((some v_self)).bind fun x14 => Ans.stay? x14)).bind fun x16 => weight_of x15 x16)).bind fun (v_best_18 : Int) => ((((some v_order)).bind fun x17 => some (x17.length : Int))).bind fun (v_many_19 : Int) => ((((((((some v_self)).bind fun x21 => Ans.papers? x21)).bind fun x22 => some (enumL x22))).bind fun l62 => forB (β := Bool) (fun (s20 : Unit) (a23 : (Int) × (List ((List (Int)) × (Int)))) => (((some ([] : List ((List (Int)) × (Int))))).bind fun (v_turned_24 : List ((List (Int)) × (Int))) => ((((some a23.2)).bind fun l48 => forB (β := Bool) (fun (s25 : (List ((List (Int)) × (Int)))) (a26 : (List (Int)) × (Int)) => (((((((((some a26.1)).bind fun x31 => lc? (fun (a27 : Int) => (some true)) (fun (a27 : Int) => (((some (0 : Int))).bind fun x28 => ((some a27)).bind fun x29 => if decide (x28 ≤ x29) = true then ((some v_many_19)).bind fun x30 => some (decide (x29 < x30)) else some false)) x31)).bind fun x33 => some (x33.all id))).bind fun x34 => some (!x34))).bind fun b35 => if b35 = true then ((some false)).bind (fun x47 => some (Rr.rt x47)) else (((((((some a26.1)).bind fun x42 => lc? (fun (a37 : Int) => (some true)) (fun (a37 : Int) => (((((some a37)).bind fun x38 => ((some a23.1)).bind fun x39 => some (x38 - x39))).bind fun x40 => ((some v_many_19)).bind fun x41 => fmod? x40 x41)) x42)).bind fun x44 => ((some a26.2)).bind fun x45 => some (x44, x45))).bind fun x46 => (app? s25 x46).bind fun (v_turned_36 : List ((List (Int)) × (Int))) => (some (Rr.nx v_turned_36))))) v_turned_24 l48).bind (Rr.goB fun (s25 : (List ((List (Int)) × (Int)))) => (((((((some (0 : Int))).bind fun x56 => ((((((some v_order)).bind fun x49 => ((some a23.1)).bind fun x50 => read_from x49 x50)).bind fun x53 => ((((some v_weights)).bind fun x51 => ((some a23.1)).bind fun x52 => weights_from x51 x52)).bind fun x54 => ((some s25)).bind fun x55 => bears x53 x54 x55)).bind fun x57 => if decide (x56 ≤ x57) = true then ((some v_best_18)).bind fun x58 => some (decide (x57 ≤ x58)) else some false)).bind fun x59 => some (!x59))).bind fun b60 => if b60 = true then ((some false)).bind (fun x61 => some (Rr.rt x61)) else (some (Rr.nx ()))))))) () l62).bind (Rr.goR fun (s20 : Unit) => (some true)))))
def ms_shows_2 (c : Nat) : (Ans) → (List (Int)) → (List (Int)) → Option (Bool) :=
  Round_shows
def _law_read (v_order_here : List (Int)) (v_book : Int) : Option (List (Int)) :=
  (((((some v_order_here)).bind fun x1 => ((some v_book)).bind fun x2 => idx? x1 x2)).bind fun (v_at_4 : Int) => ((((some v_order_here)).bind fun x3 => some (x3.length : Int))).bind fun (v_many_5 : Int) => (((((((some v_order_here)).bind fun x11 => ((((some v_at_4)).bind fun x10 => some (some x10))).bind fun x12 => ((some (none : Option Int))).bind fun x13 => some (cut x11 x12 x13))).bind fun x18 => ((((some v_order_here)).bind fun x15 => ((some (none : Option Int))).bind fun x16 => ((((some v_at_4)).bind fun x14 => some (some x14))).bind fun x17 => some (cut x15 x16 x17))).bind fun x19 => cat? x18 x19)).bind fun x25 => lc? (fun (a20 : Int) => (some true)) (fun (a20 : Int) => (((((some a20)).bind fun x21 => ((some v_book)).bind fun x22 => some (x21 - x22))).bind fun x23 => ((some v_many_5)).bind fun x24 => fmod? x23 x24)) x25))
def _law_read_weights (v_weights_here : List (Int)) (v_book : Int) : Option (List (Int)) :=
  (((((some v_weights_here)).bind fun x2 => ((((some v_book)).bind fun x1 => some (some x1))).bind fun x3 => ((some (none : Option Int))).bind fun x4 => some (cut x2 x3 x4))).bind fun x9 => ((((some v_weights_here)).bind fun x6 => ((some (none : Option Int))).bind fun x7 => ((((some v_book)).bind fun x5 => some (some x5))).bind fun x8 => some (cut x6 x7 x8))).bind fun x10 => cat? x9 x10)
def _law_round_tall (v_order_here : List (Int)) (v_weights_here : List (Int)) : Option (Int) :=
  (((((((((some v_order_here)).bind fun x1 => some (x1.length : Int))).bind fun x2 => rng? 0 x2)).bind fun x10 => lc? (fun (a3 : Int) => (some true)) (fun (a3 : Int) => (((((some v_order_here)).bind fun x4 => ((some a3)).bind fun x5 => _law_read x4 x5)).bind fun x8 => ((((some v_weights_here)).bind fun x6 => ((some a3)).bind fun x7 => _law_read_weights x6 x7)).bind fun x9 => _law_tall x8 x9)) x10)).bind fun x12 => maxL x12)
def _law_is_round (v_order_here : List (Int)) (v_weights_here : List (Int)) (v_stay : List (Int)) (v_papers : List (List ((List (Int)) × (Int)))) : Option (Bool) :=
  (((((some v_order_here)).bind fun x1 => some (x1.length : Int))).bind fun (v_many_2 : Int) => (((((((some v_stay)).bind fun x3 => ((some ([] : List (Int)))).bind fun x4 => some (decide (x3 = x4)))).bind fun x16 => if x16 = true then some true else (((((((some v_stay)).bind fun x8 => lc? (fun (a5 : Int) => (some true)) (fun (a5 : Int) => (((some a5)).bind fun x6 => ((some v_order_here)).bind fun x7 => some (!decide (x6 ∈ x7)))) x8)).bind fun x10 => some (x10.any id))).bind fun x15 => if x15 = true then some true else (((((some v_papers)).bind fun x12 => some (x12.length : Int))).bind fun x13 => ((some v_many_2)).bind fun x14 => some (!decide (x13 = x14)))))).bind fun b17 => if b17 = true then (some false) else (((((some v_stay)).bind fun x25 => lc? (fun (a18 : Int) => (some true)) (fun (a18 : Int) => (((((some a18)).bind fun x21 => ((((some v_stay)).bind fun x19 => ((some (0 : Int))).bind fun x20 => atI x19 x20)).bind fun x22 => some (x21 - x22))).bind fun x23 => ((some v_many_2)).bind fun x24 => fmod? x23 x24)) x25)).bind fun (v_turned_27 : List (Int)) => (((((((some v_turned_27)).bind fun x29 => ((((some v_turned_27)).bind fun x28 => sset? x28)).bind fun x30 => some (!decide (x29 = x30)))).bind fun x38 => if x38 = true then some true else (((((((some v_order_here)).bind fun x33 => ((((some v_stay)).bind fun x31 => ((some (0 : Int))).bind fun x32 => atI x31 x32)).bind fun x34 => _law_read x33 x34)).bind fun x35 => ((some v_turned_27)).bind fun x36 => _law_stand x35 x36)).bind fun x37 => some (!x37)))).bind fun b39 => if b39 = true then (some false) else (((((((some v_stay)).bind fun x43 => lc? (fun (a40 : Int) => (some true)) (fun (a40 : Int) => (((some v_weights_here)).bind fun x41 => ((some a40)).bind fun x42 => atI x41 x42)) x43)).bind fun x45 => some x45.sum)).bind fun (v_best_46 : Int) => ((((((some v_papers)).bind fun x48 => some (enumL x48))).bind fun l90 => forB (β := Bool) (fun (s47 : Unit) (a49 : (Int) × (List ((List (Int)) × (Int)))) => (((((((some a49.2)).bind fun x59 => lc? (fun (a50 : (List (Int)) × (Int)) => (some true)) (fun (a50 : (List (Int)) × (Int)) => (((((some a50.1)).bind fun x56 => lc? (fun (a51 : Int) => (some true)) (fun (a51 : Int) => (((((some (0 : Int))).bind fun x52 => ((some a51)).bind fun x53 => if decide (x52 ≤ x53) = true then ((some v_many_2)).bind fun x54 => some (decide (x53 < x54)) else some false)).bind fun x55 => some (!x55))) x56)).bind fun x58 => some (x58.any id))) x59)).bind fun x61 => some (x61.any id))).bind fun b62 => if b62 = true then ((some false)).bind (fun x89 => some (Rr.rt x89)) else (((((some a49.2)).bind fun x73 => lc? (fun (a63 : (List (Int)) × (Int)) => (some true)) (fun (a63 : (List (Int)) × (Int)) => (((((some a63.1)).bind fun x69 => lc? (fun (a64 : Int) => (some true)) (fun (a64 : Int) => (((((some a64)).bind fun x65 => ((some a49.1)).bind fun x66 => some (x65 - x66))).bind fun x67 => ((some v_many_2)).bind fun x68 => fmod? x67 x68)) x69)).bind fun x71 => ((some a63.2)).bind fun x72 => some (x71, x72))) x73)).bind fun (v_mine_75 : List ((List (Int)) × (Int))) => (((((((some (0 : Int))).bind fun x83 => ((((((some v_order_here)).bind fun x76 => ((some a49.1)).bind fun x77 => _law_read x76 x77)).bind fun x80 => ((((some v_weights_here)).bind fun x78 => ((some a49.1)).bind fun x79 => _law_read_weights x78 x79)).bind fun x81 => ((some v_mine_75)).bind fun x82 => _law_bears x80 x81 x82)).bind fun x84 => if decide (x83 ≤ x84) = true then ((some v_best_46)).bind fun x85 => some (decide (x84 ≤ x85)) else some false)).bind fun x86 => some (!x86))).bind fun b87 => if b87 = true then ((some false)).bind (fun x88 => some (Rr.rt x88)) else (some (Rr.nx ())))))) () l90).bind (Rr.goR fun (s47 : Unit) => (some true))))))))
end Fw

set_option Elab.async false
set_option linter.all false
/-! M0: plain lemmas about the layer's loops and lists. -/
namespace PU
open PySem L2
section
variable {s α β γ : Type}
theorem forS_aux {f : s → α → Option s} (P : Nat → s → Prop) : ∀ (xs : List α) (k : Nat) (x : s), P k x → (∀ (i : Nat) (x : s) (a : α), xs[i]? = some a → P (k + i) x → ∃ y, f x a = some y ∧ P (k + i + 1) y) → ∃ y, forS f x xs = some y ∧ P (k + xs.length) y
  | [], k, x, h, _ => ⟨x, rfl, h⟩
  | a :: as, k, x, h, hs => by
    obtain ⟨y, h1, h2⟩ := hs 0 x a rfl h
    obtain ⟨z, h3, h4⟩ := forS_aux P as (k + 1) y h2 fun i x b e p => by
      have := hs (i + 1) x b (by simpa using e) (by rw [show k + (i + 1) = k + 1 + i by omega]; exact p)
      rw [show k + (i + 1) + 1 = k + 1 + i + 1 by omega] at this
      exact this
    refine ⟨z, ?_, ?_⟩
    · show (f x a).bind _ = _
      rw [h1]; exact h3
    · rw [List.length_cons, show k + (as.length + 1) = k + 1 + as.length by omega]; exact h4
theorem forS_inv {f : s → α → Option s} {xs : List α} (P : Nat → s → Prop) {x0 : s} (h0 : P 0 x0) (hs : ∀ (i : Nat) (x : s) (a : α), xs[i]? = some a → P i x → ∃ y, f x a = some y ∧ P (i + 1) y) : ∃ y, forS f x0 xs = some y ∧ P xs.length y := by
  have := forS_aux (f := f) P xs 0 x0 h0 fun i x a e p => by
    rw [Nat.zero_add] at p ⊢
    exact hs i x a e p
  rw [Nat.zero_add] at this
  exact this
theorem forB_aux {f : s → α → Option (Rr s β)} (P : Nat → s → Prop) (R : β → Prop) : ∀ (xs : List α) (k : Nat) (x : s), P k x → (∀ (i : Nat) (x : s) (a : α), xs[i]? = some a → P (k + i) x → (∃ y, f x a = some (.nx y) ∧ P (k + i + 1) y) ∨ ∃ r, f x a = some (.rt r) ∧ R r) →
    (∃ y, forB f x xs = some (.nx y) ∧ P (k + xs.length) y) ∨ ∃ r, forB f x xs = some (.rt r) ∧ R r
  | [], k, x, h, _ => .inl ⟨x, rfl, h⟩
  | a :: as, k, x, h, hs => by
    rcases hs 0 x a rfl h with ⟨y, h1, h2⟩ | ⟨r, h1, h2⟩
    · rcases forB_aux P R as (k + 1) y h2 fun i x b e p => by
        have := hs (i + 1) x b (by simpa using e) (by rw [show k + (i + 1) = k + 1 + i by omega]; exact p)
        rw [show k + (i + 1) + 1 = k + 1 + i + 1 by omega] at this
        exact this with ⟨z, h3, h4⟩ | ⟨r, h3, h4⟩
      · refine .inl ⟨z, ?_, ?_⟩
        · show (f x a).bind _ = _
          rw [h1]; exact h3
        · rw [List.length_cons, show k + (as.length + 1) = k + 1 + as.length by omega]; exact h4
      · refine .inr ⟨r, ?_, h4⟩
        show (f x a).bind _ = _
        rw [h1]; exact h3
    · refine .inr ⟨r, ?_, h2⟩
      show (f x a).bind _ = _
      rw [h1]; rfl
theorem forB_inv {f : s → α → Option (Rr s β)} {xs : List α} (P : Nat → s → Prop) (R : β → Prop) {x0 : s} (h0 : P 0 x0) (hs : ∀ (i : Nat) (x : s) (a : α), xs[i]? = some a → P i x → (∃ y, f x a = some (.nx y) ∧ P (i + 1) y) ∨ ∃ r, f x a = some (.rt r) ∧ R r) :
    (∃ y, forB f x0 xs = some (.nx y) ∧ P xs.length y) ∨ ∃ r, forB f x0 xs = some (.rt r) ∧ R r := by
  have := forB_aux (f := f) P R xs 0 x0 h0 fun i x a e p => by
    rw [Nat.zero_add] at p ⊢
    exact hs i x a e p
  rw [Nat.zero_add] at this
  exact this
/-- a loop that is never left early -/
theorem forB_all {f : s → α → Option (Rr s β)} {xs : List α} (P : Nat → s → Prop) {x0 : s} (h0 : P 0 x0) (hs : ∀ (i : Nat) (x : s) (a : α), xs[i]? = some a → P i x → ∃ y, f x a = some (.nx y) ∧ P (i + 1) y) : ∃ y, forB f x0 xs = some (.nx y) ∧ P xs.length y := by
  rcases forB_inv (f := f) P (fun _ => False) h0 fun i x a e p => .inl (hs i x a e p) with h | ⟨_, _, h⟩
  · exact h
  · exact h.elim
theorem lcM_eq {c : α → Option Bool} {f : α → Option β} {c' : α → Bool} {f' : α → β} : ∀ {xs : List α}, (∀ x ∈ xs, c x = some (c' x)) → (∀ x ∈ xs, c' x = true → f x = some (f' x)) → lcM c f xs = some ((xs.filter c').map f')
  | [], _, _ => rfl
  | x :: xs, hc, hf => by
    have ih := lcM_eq (xs := xs) (fun y hy => hc y (List.mem_cons_of_mem _ hy)) fun y hy => hf y (List.mem_cons_of_mem _ hy)
    show (c x).bind _ = _
    rw [hc x List.mem_cons_self]
    show (if c' x = true then _ else _) = _
    by_cases h : c' x = true
    · rw [if_pos h, hf x List.mem_cons_self h, List.filter_cons, if_pos h, List.map_cons]
      show (lcM c f xs).bind _ = _
      rw [ih]; rfl
    · rw [if_neg h, List.filter_cons, if_neg h]
      exact ih
theorem lc_eq {c : α → Option Bool} {f : α → Option β} {c' : α → Bool} {f' : α → β} {xs : List α} (hl : xs.length ≤ 100000) (hc : ∀ x ∈ xs, c x = some (c' x)) (hf : ∀ x ∈ xs, c' x = true → f x = some (f' x)) : lc? c f xs = some ((xs.filter c').map f') := by
  unfold lc?
  rw [if_pos hl]
  exact lcM_eq hc hf
/-- without an if -/
theorem lc_map {f : α → Option β} {f' : α → β} {xs : List α} (hl : xs.length ≤ 100000) (hf : ∀ x ∈ xs, f x = some (f' x)) : lc? (fun _ => some true) f xs = some (xs.map f') := by
  rw [lc_eq (c' := fun _ => true) (f' := f') hl (fun _ _ => rfl) fun x hx _ => hf x hx]
  rw [List.filter_eq_self.mpr fun _ _ => rfl]
/-- the items themselves, those that pass -/
theorem lc_filter {c : α → Option Bool} {c' : α → Bool} {xs : List α} (hl : xs.length ≤ 100000) (hc : ∀ x ∈ xs, c x = some (c' x)) : lc? c (fun x => some x) xs = some (xs.filter c') := by
  have := lc_eq (c' := c') (f := fun x => some x) (f' := fun x => x) hl hc fun x _ _ => rfl
  simpa using this
theorem whS_inv {c : s → Option Bool} {f : s → Option s} (P : s → Prop) (μ : s → Nat) (hc : ∀ x, P x → ∃ b, c x = some b ∧ (b = true → ∃ y, f x = some y ∧ P y ∧ μ y < μ x)) : ∀ (n : Nat) (x : s), P x → μ x < n → ∃ y, whS c f n x = some y ∧ P y ∧ c y = some false
  | 0, x, _, h => by omega
  | n + 1, x, hp, h => by
    obtain ⟨b, h1, h2⟩ := hc x hp
    cases b with
    | false =>
      refine ⟨x, ?_, hp, h1⟩
      show (c x).bind _ = _
      rw [h1]; rfl
    | true =>
      obtain ⟨y, h3, h4, h5⟩ := h2 rfl
      obtain ⟨z, h6, h7, h8⟩ := whS_inv P μ hc n y h4 (by omega)
      refine ⟨z, ?_, h7, h8⟩
      show (c x).bind _ = _
      rw [h1]
      show (f x).bind _ = _
      rw [h3]; exact h6
end
section
variable {α : Type}
theorem atI_int {xs : List α} {i : Int} (h : 0 ≤ i) : atI xs i = xs[i.toNat]? := by
  unfold atI ixN
  rw [if_pos h]
  by_cases c : i < (xs.length : Int)
  · rw [if_pos c]; rfl
  · rw [if_neg c]
    rw [List.getElem?_eq_none (by omega)]
    rfl
theorem atI_at (xs : List α) (i : Nat) : atI xs (i : Int) = xs[i]? := by
  rw [atI_int (by omega)]; simp
theorem idx_of {xs : List Int} {x : Int} (h : x ∈ xs) : idx? xs x = some ((xs.idxOf x : Nat) : Int) := by
  unfold idx?
  cases q : xs.findIdx? (· == x) with
  | none =>
    rw [List.findIdx?_eq_none_iff] at q
    have := q x h
    simp at this
  | some j =>
    have e : xs.idxOf x = j := by
      obtain ⟨h1, h2, h3⟩ := List.findIdx?_eq_some_iff_getElem.mp q
      have hx : xs[j] = x := by simpa using h2
      have lt : xs.idxOf x < xs.length := List.idxOf_lt_length_of_mem h
      have gx : xs[xs.idxOf x] = x := List.getElem_idxOf lt
      rcases Nat.lt_trichotomy (xs.idxOf x) j with c | c | c
      · have := h3 _ c
        rw [gx] at this; simp at this
      · exact c
      · have := List.not_of_lt_findIdx (p := (· == x)) (xs := xs) (i := j) c
        rw [hx] at this; simp at this
    rw [e]; rfl
theorem rng_eq (n : Nat) : rng 0 (n : Int) = (List.range n).map fun (i : Nat) => (i : Int) := by
  unfold rng
  simp
theorem rng_ok {a : Int} (h : 0 ≤ a) (h' : a ≤ 100000) : rng? 0 a = some (rng 0 a) := by
  unfold rng?
  rw [if_pos (by omega)]
theorem rng2_ok {a b : Int} (h : a.natAbs ≤ 100000) (h' : b.natAbs ≤ 100000) : rng? a b = some (rng a b) := by
  unfold rng?
  rw [if_pos ⟨h, h'⟩]
theorem rng_at {a b : Int} {i : Nat} {x : Int} (h : (rng a b)[i]? = some x) : x = a + i ∧ a + i < b := by
  unfold rng at h
  rw [List.getElem?_map] at h
  by_cases c : i < (b - a).toNat
  · rw [List.getElem?_range c] at h
    cases h
    exact ⟨rfl, by omega⟩
  · rw [List.getElem?_eq_none (by simp; omega)] at h
    cases h
theorem mem_rng {a b x : Int} : x ∈ rng a b ↔ a ≤ x ∧ x < b := by
  unfold rng
  rw [List.mem_map]
  refine ⟨fun ⟨i, h1, h2⟩ => ?_, fun h => ⟨(x - a).toNat, ?_, ?_⟩⟩
  · have := List.mem_range.mp h1
    omega
  · exact List.mem_range.mpr (by omega)
  · omega
theorem rng_nodup (a b : Int) : (rng a b).Nodup := by
  unfold rng
  rw [List.Nodup, List.pairwise_map]
  exact (List.nodup_range).imp fun h e => h (by omega)
theorem rng_rise (a b : Int) : (rng a b).Pairwise (· < ·) := by
  unfold rng
  rw [List.pairwise_map]
  exact (List.pairwise_lt_range).imp fun h => by omega
theorem enumL_at {xs : List α} {i : Nat} {p : Int × α} (h : (enumL xs)[i]? = some p) : p.1 = i ∧ xs[i]? = some p.2 := by
  unfold enumL at h
  obtain ⟨h1, h2⟩ := List.getElem?_zip_eq_some.mp h
  rw [List.getElem?_map] at h1
  have hi : i < xs.length := (List.getElem?_eq_some_iff.mp h2).1
  rw [List.getElem?_range hi] at h1
  exact ⟨by simpa using h1.symm, h2⟩
theorem app_ok {xs : List α} {x : α} (h : xs.length < 100000) : app? xs x = some (xs ++ [x]) := by
  unfold app?; rw [if_pos h]
theorem cat_ok {xs ys : List α} (h : xs.length + ys.length ≤ 100000) : cat? xs ys = some (xs ++ ys) := by
  unfold cat?; rw [if_pos h]
end
end PU

set_option Elab.async false
set_option linter.all false
/-! M1: what the program's own functions answer, in plain Lean: heights, staying, paper, the free ones, the clash, the plan. -/
namespace PU
open PySem L2
section
variable {α β : Type}
/-- the evaluation ends, and what it gives is so -/
def Ok (m : Option α) (A : α → Prop) : Prop := ∃ x, m = some x ∧ A x
theorem Ok.bind {m : Option α} {f : α → Option β} {A : α → Prop} {B : β → Prop} (h : Ok m A) (k : ∀ x, A x → Ok (f x) B) : Ok (m.bind f) B := by
  obtain ⟨x, h1, h2⟩ := h
  rw [h1]
  exact k x h2
theorem Ok.pure {x : α} {A : α → Prop} (h : A x) : Ok (some x) A := ⟨x, rfl, h⟩
theorem Ok.eqb {m : Option α} {f : α → Option β} {x : α} {B : β → Prop} (h : m = some x) (k : Ok (f x) B) : Ok (m.bind f) B := by
  rw [h]
  exact k
theorem Ok.eq {m : Option α} {x : α} {A : α → Prop} (h : m = some x) (k : A x) : Ok m A := ⟨x, h, k⟩
theorem Ok.mono {m : Option α} {A B : α → Prop} (h : Ok m A) (k : ∀ x, A x → B x) : Ok m B := by
  obtain ⟨x, h1, h2⟩ := h
  exact ⟨x, h1, k x h2⟩
theorem Ok.ite {c : Prop} [Decidable c] {m n : Option α} {A : α → Prop} (h : c → Ok m A) (k : ¬c → Ok n A) : Ok (if c then m else n) A := by
  by_cases hc : c
  · rw [if_pos hc]; exact h hc
  · rw [if_neg hc]; exact k hc
theorem Ok.ex {m : Option α} {A : α → Prop} (h : Ok m A) : ∃ x, m = some x := by
  obtain ⟨x, h, _⟩ := h
  exact ⟨x, h⟩
/-- the weight of a book -/
def W (w : List Int) (b : Int) : Int := (w[b.toNat]?).getD 0
def sumW (w : List Int) (l : List Int) : Int := (l.map (W w)).sum
theorem atI_W {w : List Int} {b : Int} (h : 0 ≤ b) (h' : b < w.length) : atI w b = some (W w b) := by
  rw [atI_int h]
  unfold W
  rw [List.getElem?_eq_getElem (by omega)]
  rfl
theorem W_mem {w : List Int} {b : Int} (h : 0 ≤ b) (h' : b < w.length) : W w b ∈ w := by
  unfold W
  rw [List.getElem?_eq_getElem (by omega)]
  exact List.getElem_mem _
theorem sumW_nil {w : List Int} : sumW w [] = 0 := rfl
theorem sumW_cons {w : List Int} {b : Int} {l : List Int} : sumW w (b :: l) = W w b + sumW w l := by
  unfold sumW; rw [List.map_cons, List.sum_cons]
theorem sumW_append {w : List Int} {l l' : List Int} : sumW w (l ++ l') = sumW w l + sumW w l' := by
  unfold sumW; rw [List.map_append, List.sum_append]
theorem sumW_perm {w : List Int} {l l' : List Int} (h : l.Perm l') : sumW w l = sumW w l' := by
  induction h with
  | nil => rfl
  | cons x _ ih => rw [sumW_cons, sumW_cons, ih]
  | swap x y l => simp only [sumW_cons]; omega
  | trans _ _ h1 h2 => rw [h1, h2]
/-- the books of a list are books with a weight, and the weights are positive -/
structure Bks (o w : List Int) : Prop where
  rg : ∀ b ∈ o, 0 ≤ b ∧ b < w.length
  po : ∀ x ∈ w, 1 ≤ x
  nd : o.Nodup
  le : o.length ≤ 99
theorem Bks.w {o w : List Int} (h : Bks o w) {b : Int} (hb : b ∈ o) : atI w b = some (W w b) := atI_W (h.rg b hb).1 (h.rg b hb).2
theorem Bks.pos {o w : List Int} (h : Bks o w) {b : Int} (hb : b ∈ o) : 1 ≤ W w b := h.po _ (W_mem (h.rg b hb).1 (h.rg b hb).2)
theorem Bks.sub {o o' w : List Int} (h : Bks o w) (s : o'.Sublist o) : Bks o' w where
  rg b hb := h.rg b (s.subset hb)
  po := h.po
  nd := h.nd.sublist s
  le := Nat.le_trans s.length_le h.le
theorem Bks.sum_pos {o w : List Int} (h : Bks o w) : 0 ≤ sumW w o := by
  induction o with
  | nil => simp [sumW]
  | cons b l ih =>
    rw [sumW_cons]
    have := h.pos (List.mem_cons_self (a := b) (l := l))
    have := ih (h.sub (List.sublist_cons_self b l))
    omega
theorem Bks.sum_pos' {o w : List Int} (h : Bks o w) (hn : o ≠ []) : 0 < sumW w o := by
  cases o with
  | nil => exact absurd rfl hn
  | cons b l =>
    rw [sumW_cons]
    have := h.pos (List.mem_cons_self (a := b) (l := l))
    have := (h.sub (List.sublist_cons_self b l)).sum_pos
    omega
def ob (o : List Int) (i : Nat) : Int := (o[i]?).getD 0
def th (t : List (Int × Int)) (i : Nat) : Int := ((t[i]?).getD (0, 0)).1
def ta (t : List (Int × Int)) (i : Nat) : Int := ((t[i]?).getD (0, 0)).2
theorem ob_at {o : List Int} {i : Nat} (h : i < o.length) : o[i]? = some (ob o i) := by
  unfold ob; rw [List.getElem?_eq_getElem h]; rfl
theorem ob_of {o : List Int} {i : Nat} {b : Int} (h : o[i]? = some b) : ob o i = b := by
  unfold ob; rw [h]; rfl
theorem ob_mem {o : List Int} {i : Nat} (h : i < o.length) : ob o i ∈ o := List.mem_of_getElem? (ob_at h)
theorem th_at {t : List (Int × Int)} {i : Nat} (h : i < t.length) : t[i]? = some (th t i, ta t i) := by
  unfold th ta; rw [List.getElem?_eq_getElem h]; rfl
theorem th_app {t : List (Int × Int)} {i : Nat} (h : i < t.length) (x : Int × Int) : th (t ++ [x]) i = th t i ∧ ta (t ++ [x]) i = ta t i := by
  unfold th ta; rw [List.getElem?_append_left h]; exact ⟨rfl, rfl⟩
theorem th_new {t : List (Int × Int)} (x : Int × Int) : th (t ++ [x]) t.length = x.1 ∧ ta (t ++ [x]) t.length = x.2 := by
  unfold th ta; rw [List.getElem?_append_right (Nat.le_refl _)]; simp
def RowOk (o w : List Int) (t : List (Int × Int)) (i : Nat) : Prop :=
  1 ≤ th t i ∧ (∀ j, j < i → ob o j < ob o i → th t j + W w (ob o i) ≤ th t i) ∧
  ((ta t i = -1 ∧ th t i = W w (ob o i)) ∨ ∃ j : Nat, j < i ∧ ta t i = j ∧ ob o j < ob o i ∧ th t i = th t j + W w (ob o i))
theorem RowOk.app {o w : List Int} {t : List (Int × Int)} {i : Nat} (h : RowOk o w t i) (hi : i < t.length) (x : Int × Int) : RowOk o w (t ++ [x]) i := by
  obtain ⟨h1, h2, h3⟩ := h
  refine ⟨by rw [(th_app hi x).1]; exact h1, fun j hj hb => ?_, ?_⟩
  · rw [(th_app hi x).1, (th_app (by omega) x).1]; exact h2 j hj hb
  · rcases h3 with ⟨a, b⟩ | ⟨j, a, b, c, d⟩
    · exact .inl ⟨by rw [(th_app hi x).2]; exact a, by rw [(th_app hi x).1]; exact b⟩
    · exact .inr ⟨j, a, by rw [(th_app hi x).2]; exact b, c, by rw [(th_app hi x).1, (th_app (by omega) x).1]; exact d⟩
end
end PU
namespace Fw
open PySem L2 PU
theorem heights_ok {o w : List Int} (h : Bks o w) : Ok (heights o w) fun t => t.length = o.length ∧ ∀ i, i < o.length → RowOk o w t i := by
  unfold heights
  simp only [Option.bind_some]
  refine Ok.bind (A := fun t => t.length = o.length ∧ ∀ i, i < o.length → RowOk o w t i) ?_ fun t ht => .pure ht
  have key := forS_inv (xs := enumL o) (fun k (t : List (Int × Int)) => t.length = k ∧ ∀ i, i < k → RowOk o w t i) (x0 := []) ⟨rfl, fun i hi => by omega⟩ (f := ?_) ?_
  rw [enumL_len] at key
  · exact key
  rintro i t ⟨q, b⟩ e ⟨hl, hr⟩
  obtain ⟨e1, e2⟩ := enumL_at e
  cases e1
  have hi : i < o.length := (List.getElem?_eq_some_iff.mp e2).1
  have hb : ob o i = b := ob_of e2
  have hbm : b ∈ o := List.mem_of_getElem? e2
  have hle := h.le
  refine Ok.bind (A := fun s : Int × Int => (∀ j, j < i → ob o j < b → th t j ≤ s.1) ∧ 0 ≤ s.1 ∧ ((s.2 = -1 ∧ s.1 = 0) ∨ ∃ j : Nat, j < i ∧ s.2 = j ∧ ob o j < b ∧ s.1 = th t j)) ?_ ?_
  · refine Ok.eqb (rng_ok (a := (i : Int)) (by omega) (by omega)) ?_
    have key := forS_inv (xs := rng 0 (i : Int)) (fun k (s : Int × Int) => (∀ j, j < k → ob o j < b → th t j ≤ s.1) ∧ 0 ≤ s.1 ∧ ((s.2 = -1 ∧ s.1 = 0) ∨ ∃ j : Nat, j < i ∧ s.2 = j ∧ ob o j < b ∧ s.1 = th t j)) (x0 := (0, -1)) ⟨fun j hj => by omega, by simp, .inl ⟨rfl, rfl⟩⟩ (f := ?_) ?_
    rw [show (rng 0 (i : Int)).length = i by simp [rng]] at key
    · exact key
    rintro k ⟨s, a⟩ j ej ⟨p1, p2, p3⟩
    obtain ⟨e3, e4⟩ := rng_at ej
    simp only [Int.zero_add] at e3 e4
    subst e3
    have hk : k < i := by omega
    simp only [atI_at, ob_at (show k < o.length by omega), th_at (show k < t.length by omega), Option.bind_some]
    have nx : ∀ s', (th t k ≤ s' ∨ ¬ ob o k < b) → s ≤ s' → ∀ j, j < k + 1 → ob o j < b → th t j ≤ s' := fun s' hs hss j hj hjb => by
      by_cases c : j = k
      · subst c; rcases hs with hs | hs
        · exact hs
        · exact absurd hjb hs
      · have := p1 j (by omega) hjb
        simp only at this
        omega
    by_cases c : ob o k < b
    · simp only [c, decide_true, if_true, Option.bind_some]
      by_cases d : s < th t k
      · simp only [d, decide_true, if_true, Option.bind_some]
        exact ⟨_, rfl, nx _ (.inl (Int.le_refl _)) (by omega), by simp only at p2 ⊢; omega, .inr ⟨k, hk, rfl, c, rfl⟩⟩
      · simp only [d, decide_false, Bool.false_eq_true, if_false, Option.bind_some]
        exact ⟨_, rfl, nx _ (.inl (by omega)) (Int.le_refl _), p2, p3⟩
    · simp only [c, decide_false, Bool.false_eq_true, if_false, Option.bind_some]
      exact ⟨_, rfl, nx _ (.inr c) (Int.le_refl _), p2, p3⟩
  · rintro ⟨s, a⟩ ⟨p1, p2, p3⟩
    simp only [h.w hbm, Option.bind_some]
    refine Ok.eqb (PU.app_ok (by omega)) (.pure ⟨by simp [hl], fun j hj => ?_⟩)
    by_cases c : j = i
    · subst c
      have t1 := th_new (t := t) (s + W w b, a)
      rw [hl] at t1
      have wp := h.pos hbm
      refine ⟨by rw [t1.1]; simp only at p2 ⊢; omega, fun k hk hkb => ?_, ?_⟩
      · rw [t1.1, hb, (th_app (by omega) _).1]
        have := p1 k hk (by rw [hb] at hkb; exact hkb)
        simp only at this ⊢
        omega
      · rw [t1.1, t1.2, hb]
        rcases p3 with ⟨x, y⟩ | ⟨k, x, y, z, u⟩
        · exact .inl ⟨x, by simp only at y ⊢; omega⟩
        · exact .inr ⟨k, x, y, z, by rw [(th_app (by omega) _).1]; simp only at u ⊢; omega⟩
    · exact (hr j (by omega)).app (by omega) _
end Fw

set_option Elab.async false
set_option linter.all false
/-! M2: staying is a heaviest rising list. -/
namespace PU
open PySem L2
theorem sub_concat {l r : List Int} {x : Int} (h : l.Sublist (r ++ [x])) : l.Sublist r ∨ ∃ l', l = l' ++ [x] ∧ l'.Sublist r := by
  obtain ⟨l1, l2, e, h1, h2⟩ := List.sublist_append_iff.mp h
  cases h2 with
  | cons _ h2 =>
    have := List.sublist_nil.mp h2
    subst this
    rw [List.append_nil] at e
    exact .inl (e ▸ h1)
  | cons_cons _ h2 =>
    have := List.sublist_nil.mp h2
    subst this
    exact .inr ⟨l1, e, h1⟩
theorem take_at {o : List Int} {k : Nat} (h : k < o.length) : o.take (k + 1) = o.take k ++ [ob o k] := by
  rw [List.take_add_one, ob_at h]; rfl
theorem drop_at {o : List Int} {k : Nat} (h : k < o.length) : o.drop k = ob o k :: o.drop (k + 1) := by
  rw [List.drop_eq_getElem_cons h]
  congr 1
  have := ob_at h
  rw [List.getElem?_eq_getElem h] at this
  exact Option.some.inj this
/-- no rising list weighs more than the height where it ends -/
theorem tall_top {o w : List Int} {t : List (Int × Int)} (h : Bks o w) (ht : ∀ i, i < o.length → RowOk o w t i) : ∀ (k : Nat), k ≤ o.length → ∀ l : List Int, l.Pairwise (· < ·) → l.Sublist (o.take k) → l = [] ∨ ∃ i l', i < k ∧ l = l' ++ [ob o i] ∧ sumW w l ≤ th t i
  | 0, _, l, _, hs => by
    rw [List.take_zero] at hs
    exact .inl (List.sublist_nil.mp hs)
  | k + 1, hk, l, hi, hs => by
    rw [take_at (by omega)] at hs
    rcases sub_concat hs with hs | ⟨l', e, hs'⟩
    · rcases tall_top h ht k (by omega) l hi hs with e | ⟨i, l', h1, h2, h3⟩
      · exact .inl e
      · exact .inr ⟨i, l', by omega, h2, h3⟩
    · subst e
      have hp := List.pairwise_append.mp hi
      refine .inr ⟨k, l', by omega, rfl, ?_⟩
      rw [sumW_append, sumW_cons, sumW_nil]
      obtain ⟨r1, r2, r3⟩ := ht k (by omega)
      rcases tall_top h ht k (by omega) l' hp.1 hs' with e | ⟨i, l2, h1, h2, h3⟩
      · subst e
        rw [sumW_nil]
        rcases r3 with ⟨_, r3⟩ | ⟨j, hj, _, _, r3⟩
        · omega
        · have := (ht j (by omega)).1
          omega
      · have lt : ob o i < ob o k := hp.2.2 _ (by rw [h2]; simp) _ (by simp)
        have := r2 i h1 lt
        omega
/-- the weight of the heaviest rising list -/
structure Best (o w l : List Int) : Prop where
  sub : l.Sublist o
  inc : l.Pairwise (· < ·)
  top : ∀ l' : List Int, l'.Sublist o → l'.Pairwise (· < ·) → sumW w l' ≤ sumW w l
end PU
namespace Fw
open PySem L2 PU
theorem staying_ok {o w : List Int} (h : Bks o w) : Ok (staying o w) (Best o w) := by
  unfold staying
  simp only [Option.bind_some]
  refine Ok.bind (heights_ok h) fun t ⟨hl, ht⟩ => ?_
  refine Ok.ite (fun e => ?_) fun e => ?_
  · have e : t = [] := by simpa using e
    subst e
    have : o = [] := List.eq_nil_of_length_eq_zero hl.symm
    subst this
    exact .pure ⟨List.Sublist.refl _, .nil, fun l' hs _ => by rw [List.sublist_nil.mp hs]; exact Int.le_refl _⟩
  · have e : t ≠ [] := by simpa using e
    have hle := h.le
    have e1 : lc? (fun _ => some true) (fun x : Int × Int => some x.1) t = some (t.map (·.1)) := lc_map (by omega) fun _ _ => rfl
    simp only [e1, Option.bind_some]
    have hne : t.map (·.1) ≠ [] := by simpa using e
    obtain ⟨m, hm⟩ : ∃ m, maxL (t.map (·.1)) = some m := by
      cases q : t.map (·.1) with
      | nil => exact absurd q hne
      | cons a as => exact ⟨_, rfl⟩
    obtain ⟨mm, mt⟩ := maxL_spec hm
    simp only [hm, Option.bind_some, idx_of mm]
    have hix : (t.map (·.1)).idxOf m < t.length := by
      have := List.idxOf_lt_length_of_mem mm
      simpa using this
    have hth : th t ((t.map (·.1)).idxOf m) = m := by
      have g : (t.map (·.1))[(t.map (·.1)).idxOf m]? = some m := by
        rw [List.getElem?_eq_getElem (List.idxOf_lt_length_of_mem mm), List.getElem_idxOf]
      rw [List.getElem?_map, th_at hix] at g
      exact Option.some.inj g
    have top : ∀ i, i < o.length → th t i ≤ m := fun i hi => mt _ (by
      have := List.mem_map_of_mem (f := Prod.fst) (List.mem_of_getElem? (th_at (t := t) (i := i) (by omega)))
      exact this)
    generalize (t.map (·.1)).idxOf m = n0 at hix hth
    refine Ok.bind (A := fun s : Int × List Int => s.1 < 0 ∧ s.2.reverse.Sublist o ∧ s.2.reverse.Pairwise (· < ·) ∧ sumW w s.2.reverse = m) ?_ ?_
    · have key := whS_inv (c := fun s20 : Int × List Int => some (decide (0 ≤ s20.fst)))
        (f := fun s20 : Int × List Int => (atI o s20.fst).bind fun x26 => (app? s20.snd x26).bind fun v => ((atI t s20.fst).bind fun x29 => some x29.snd).bind fun v30 => some (v30, v))
        (fun s => (s.1 = -1 ∧ s.2.reverse.Sublist o ∧ s.2.reverse.Pairwise (· < ·) ∧ sumW w s.2.reverse = m) ∨
          ∃ i : Nat, s.1 = i ∧ i < o.length ∧ s.2.reverse.Sublist (o.drop (i + 1)) ∧ s.2.reverse.Pairwise (· < ·) ∧ (∀ x ∈ s.2.reverse, ob o i < x) ∧ th t i + sumW w s.2.reverse = m)
        (fun s => (s.1 + 1).toNat) ?_ 100 ((n0 : Int), []) (.inr ⟨n0, rfl, by omega, by simp, by simp, by simp, by simp [hth, sumW_nil]⟩) (by simp only; omega)
      · obtain ⟨z, h1, h2, h3⟩ := key
        refine ⟨z, h1, ?_⟩
        rcases h2 with h2 | ⟨i, h2, _⟩
        · exact ⟨by omega, h2.2⟩
        · rw [h2] at h3
          simp at h3
      · intro s hs
        refine ⟨_, rfl, fun hb => ?_⟩
        have hb : 0 ≤ s.1 := by simpa using hb
        obtain ⟨a, f⟩ := s
        rcases hs with hs | ⟨i, hs, hi, p1, p2, p3, p4⟩
        · have := hs.1; simp only at this hb; omega
        · simp only at hs p1 p2 p3 p4
          subst hs
          have hfl : f.length ≤ o.length := by
            have := p1.length_le
            rw [List.length_reverse, List.length_drop] at this
            omega
          simp only [atI_at, ob_at hi, th_at (show i < t.length by omega), Option.bind_some, PU.app_ok (show f.length < 100000 by omega)]
          have q1 : (ob o i :: f.reverse).Sublist (o.drop i) := by rw [drop_at hi]; exact p1.cons_cons _
          have q2 : (ob o i :: f.reverse).Pairwise (· < ·) := List.pairwise_cons.mpr ⟨p3, p2⟩
          have rv : (f ++ [ob o i]).reverse = ob o i :: f.reverse := by simp
          obtain ⟨r1, r2, r3⟩ := ht i hi
          rcases r3 with ⟨r3, r4⟩ | ⟨j, r3, r4, r5, r6⟩
          · refine ⟨_, rfl, .inl ⟨r3, ?_, ?_, ?_⟩, ?_⟩
            · simp only [rv]; exact q1.trans (List.drop_sublist _ _)
            · simp only [rv]; exact q2
            · simp only [rv]; rw [sumW_cons]; omega
            · simp only [r3]; omega
          · refine ⟨_, rfl, .inr ⟨j, r4, by omega, ?_, ?_, ?_, ?_⟩, ?_⟩
            · simp only [rv]
              refine q1.trans ?_
              rw [show i = (j + 1) + (i - (j + 1)) by omega, ← List.drop_drop]
              exact List.drop_sublist _ _
            · simp only [rv]; exact q2
            · simp only [rv]
              intro x hx
              rcases List.mem_cons.mp hx with hx | hx
              · omega
              · have := p3 x hx; omega
            · simp only [rv]; rw [sumW_cons]; omega
            · simp only [r4]; omega
    · rintro ⟨a, f⟩ ⟨_, h2, h3, h4⟩
      refine .pure ⟨h2, h3, fun l' hs hi => ?_⟩
      simp only at h4
      rw [h4]
      rw [show o = o.take o.length by simp] at hs
      rcases tall_top h ht o.length (Nat.le_refl _) l' hi hs with e | ⟨i, l2, h5, h6, h7⟩
      · subst e
        rw [sumW_nil]
        have := (ht n0 (by omega)).1
        omega
      · have := top i h5
        omega
end Fw

set_option Elab.async false
set_option linter.all false
/-! M3: paper. -/
namespace PU
open PySem L2
variable {α : Type}
theorem Ok.forS {s : Type} {f : s → α → Option s} {xs : List α} (P : Nat → s → Prop) {x0 : s} (h0 : P 0 x0) (hs : ∀ (i : Nat) (x : s) (a : α), xs[i]? = some a → P i x → Ok (f x a) (P (i + 1))) : Ok (PU.forS f x0 xs) (P xs.length) := forS_inv P h0 hs
theorem Ok.forB {s β : Type} {f : s → α → Option (Rr s β)} {xs : List α} (P : Nat → s → Prop) (R : β → Prop) {x0 : s} (h0 : P 0 x0) (hs : ∀ (i : Nat) (x : s) (a : α), xs[i]? = some a → P i x → Ok (f x a) fun r => (∃ y, r = .nx y ∧ P (i + 1) y) ∨ ∃ y, r = .rt y ∧ R y) :
    Ok (PU.forB f x0 xs) fun r => (∃ y, r = .nx y ∧ P xs.length y) ∨ ∃ y, r = .rt y ∧ R y := by
  rcases forB_inv P R h0 (f := f) (xs := xs) fun i x a e p => by
    obtain ⟨r, h1, ⟨y, e, h2⟩ | ⟨y, e, h2⟩⟩ := hs i x a e p
    · exact .inl ⟨y, e ▸ h1, h2⟩
    · exact .inr ⟨y, e ▸ h1, h2⟩ with ⟨y, h1, h2⟩ | ⟨y, h1, h2⟩
  · exact ⟨_, h1, .inl ⟨y, rfl, h2⟩⟩
  · exact ⟨_, h1, .inr ⟨y, rfl, h2⟩⟩
theorem seti_last (xs : List α) (x y : α) : seti? (xs ++ [x]) (-1) y = some (xs ++ [y]) := by
  unfold seti? ixN
  rw [if_neg (by omega), if_pos (by simp; omega)]
  rw [show (-1 + ((xs ++ [x]).length : Int)).toNat = xs.length by simp; omega]
  simp
/-- the rows of a paper, one by one -/
def rowsOf (p : List (List Int × Int)) : List (List Int) := p.flatMap fun r => List.replicate r.2.toNat r.1
theorem rowsOf_append (p q : List (List Int × Int)) : rowsOf (p ++ q) = rowsOf p ++ rowsOf q := by
  unfold rowsOf; rw [List.flatMap_append]
theorem rowsOf_one (r : List Int) (n : Int) : rowsOf [(r, n)] = List.replicate n.toNat r := by
  unfold rowsOf; simp
def inRow (w : List Int) (t : List (Int × Int)) (s : Int) (p : Int × Int) : Bool := decide (th t p.1.toNat - W w p.2 < s) && decide (s ≤ th t p.1.toNat)
/-- the books on the shelf's paper at a step -/
def rowAt (o w : List Int) (t : List (Int × Int)) (s : Int) : List Int := ((enumL o).filter (inRow w t s)).map (·.2)
theorem tall_le {o w : List Int} {t : List (Int × Int)} (h : Bks o w) (h9 : ∀ x ∈ w, x ≤ 9) (ht : ∀ i, i < o.length → RowOk o w t i) : ∀ n i : Nat, i < n → i < o.length → th t i ≤ 9 * (i + 1)
  | 0, i, hn, hi => absurd hn (by omega)
  | n + 1, i, hn, hi => by
    have hw : W w (ob o i) ≤ 9 := h9 _ (W_mem (h.rg _ (ob_mem hi)).1 (h.rg _ (ob_mem hi)).2)
    obtain ⟨_, _, r⟩ := ht i hi
    rcases r with ⟨_, r⟩ | ⟨j, hj, _, _, r⟩
    · omega
    · have := tall_le h h9 ht n j (by omega) (by omega)
      omega
theorem mem_of_enum {o : List Int} {p : Int × Int} (h : p ∈ enumL o) : ∃ i : Nat, i < o.length ∧ p = ((i : Int), ob o i) := by
  obtain ⟨i, hi⟩ := List.mem_iff_getElem?.mp h
  obtain ⟨h1, h2⟩ := enumL_at hi
  have hl : i < o.length := (List.getElem?_eq_some_iff.mp h2).1
  refine ⟨i, hl, ?_⟩
  rw [ob_of h2, ← h1]
/-- what paper gives -/
structure Papered (o w : List Int) (p : List (List Int × Int)) : Prop where
  ex : ∃ (t : List (Int × Int)) (m : Int), t.length = o.length ∧ (∀ i, i < o.length → RowOk o w t i) ∧ maxL ([0] ++ t.map (·.1)) = some m ∧ rowsOf p = (rng 1 (m + 1)).map (rowAt o w t)
  po : ∀ r ∈ p, 1 ≤ r.2
end PU
namespace Fw
open PySem L2 PU
theorem paper_ok {o w : List Int} (h : Bks o w) (h9 : ∀ x ∈ w, x ≤ 9) : Ok (paper o w) (Papered o w) := by
  unfold paper
  simp only [Option.bind_some]
  have hle := h.le
  obtain ⟨t, ht1, hl, ht⟩ := heights_ok h
  have e1 : lc? (fun _ => some true) (fun x : Int × Int => some x.1) t = some (t.map (·.1)) := lc_map (by omega) fun _ _ => rfl
  have l1 : (t.map (·.1)).length = o.length := by simp [hl]
  simp only [ht1, Option.bind_some, e1, cat_ok (show [(0 : Int)].length + (t.map (·.1)).length ≤ 100000 by simp only [List.length_cons, List.length_nil, l1]; omega)]
  obtain ⟨m, hm⟩ : ∃ m, maxL ([0] ++ t.map (·.1)) = some m := ⟨_, rfl⟩
  obtain ⟨mm, mt⟩ := maxL_spec hm
  have m0 : 0 ≤ m := mt 0 (by simp)
  have m9 : m ≤ 1000 := by
    rcases List.mem_append.mp mm with mm | mm
    · rw [List.mem_singleton.mp mm]; omega
    · obtain ⟨i, hi⟩ := List.mem_iff_getElem?.mp mm
      have il : i < t.length := by
        have := (List.getElem?_eq_some_iff.mp hi).1
        simpa using this
      rw [List.getElem?_map, th_at il] at hi
      have hi := Option.some.inj hi
      simp only at hi
      have := tall_le h h9 ht (i + 1) i (by omega) (by omega)
      omega
  simp only [hm, Option.bind_some]
  simp only [rng2_ok (a := 1) (b := m + 1) (by omega) (by omega), Option.bind_some]
  have tt : ∀ i, i < o.length → (t.map (·.1))[i]? = some (th t i) := fun i hi => by
    rw [List.getElem?_map, th_at (by omega)]; rfl
  refine Ok.bind (Ok.forS (fun k (p : List (List Int × Int)) => rowsOf p = ((rng 1 (m + 1)).take k).map (rowAt o w t) ∧ (∀ r ∈ p, 1 ≤ r.2) ∧ p.length ≤ k) ⟨rfl, fun _ h => absurd h (by simp), by simp⟩ ?_) fun p hp => .pure ⟨⟨t, m, hl, ht, hm, by rw [hp.1, List.take_length]⟩, hp.2.1⟩
  · rintro k p s es ⟨h1, h2, h3⟩
    have hk : k < (rng 1 (m + 1)).length := (List.getElem?_eq_some_iff.mp es).1
    have hk1 : k < 1000 := by
      have : (rng 1 (m + 1)).length = m.toNat := by simp [rng]
      omega
    have hrow : lc? (fun a26 : Int × Int => ((atI (t.map (·.1)) a26.fst).bind fun x31 => (atI w a26.snd).bind fun x32 => some (x31 - x32)).bind fun x35 => if decide (x35 < s) = true then (atI (t.map (·.1)) a26.fst).bind fun x37 => some (decide (s ≤ x37)) else some false) (fun a26 => some a26.snd) (enumL o) = some (rowAt o w t s) := by
      refine lc_eq (by rw [enumL_len]; omega) (fun q hq => ?_) fun _ _ _ => rfl
      obtain ⟨i, hi, rfl⟩ := mem_of_enum hq
      simp only [atI_at, tt i hi, h.w (ob_mem hi), Option.bind_some, inRow, Int.toNat_natCast]
      by_cases c : th t i - W w (ob o i) < s <;> simp [c]
    simp only [hrow, Option.bind_some]
    have tk : (rng 1 (m + 1)).take (k + 1) = (rng 1 (m + 1)).take k ++ [s] := by
      rw [List.take_add_one, es]; rfl
    rw [tk, List.map_append, List.map_singleton, ← h1]
    have fresh : Ok (app? p (rowAt o w t s, 1)) fun p' => rowsOf p' = rowsOf p ++ [rowAt o w t s] ∧ (∀ r ∈ p', 1 ≤ r.2) ∧ p'.length ≤ k + 1 := by
      refine Ok.eq (PU.app_ok (by omega)) ⟨?_, fun r hr => ?_, ?_⟩
      · rw [rowsOf_append, rowsOf_one]; rfl
      · rcases List.mem_append.mp hr with hr | hr
        · exact h2 r hr
        · rw [List.mem_singleton.mp hr]; exact Int.le_refl _
      · rw [List.length_append, List.length_singleton]; omega
    rcases List.eq_nil_or_concat p with e | ⟨q, ⟨r, n⟩, e⟩
    · subst e
      simp only [decide_true, Bool.not_true, Bool.false_eq_true, if_false, Option.bind_some]
      refine Ok.bind (Ok.bind fresh fun x hx => .pure hx) fun x hx => .pure hx
    · rw [List.concat_eq_append] at e
      subst e
      have ne : q ++ [(r, n)] ≠ [] := by simp
      simp only [ne, decide_false, Bool.not_false, if_true, L2.atI_last, Option.bind_some]
      by_cases c : r = rowAt o w t s
      · simp only [c, decide_true, if_true, seti_last, Option.bind_some]
        refine .pure ⟨?_, fun x hx => ?_, ?_⟩
        · rw [rowsOf_append, rowsOf_append, rowsOf_one, rowsOf_one]
          have := h2 (r, n) (by simp)
          simp only at this
          rw [show (n + 1).toNat = n.toNat + 1 by omega, List.replicate_succ']
          simp
        · rcases List.mem_append.mp hx with hx | hx
          · exact h2 x (by simp [hx])
          · rw [List.mem_singleton.mp hx]
            have := h2 (r, n) (by simp)
            simp only at this ⊢
            omega
        · simp at h3 ⊢; omega
      · simp only [c, decide_false, Bool.false_eq_true, if_false, Option.bind_some]
        refine Ok.bind (Ok.bind fresh fun x hx => .pure hx) fun x hx => .pure hx
end Fw

set_option Elab.async false
set_option linter.all false
/-! M4: the free ones, the clash, the checks, the plan, least. -/
namespace PU
open PySem L2
variable {α : Type}
def ix (o : List Int) (b : Int) : Nat := o.idxOf b
/-- the two books stand right -/
def sr (o : List Int) (a b : Int) : Bool := decide (a = b) || (decide (ix o a < ix o b) == decide (a < b))
theorem ix_inj {o : List Int} {a b : Int} (ha : a ∈ o) (h : ix o a = ix o b) : a = b := by
  have h1 : o[o.idxOf a]'(List.idxOf_lt_length_of_mem ha) = a := List.getElem_idxOf _
  have hb : o.idxOf b < o.length := by
    have := List.idxOf_lt_length_of_mem ha
    unfold ix at h
    omega
  have h2 : o[o.idxOf b]'hb = b := List.getElem_idxOf _
  rw [← h1, ← h2]
  unfold ix at h
  congr 1
theorem ix_rise {o : List Int} (h : o.Nodup) : o.Pairwise fun a b => ix o a < ix o b := by
  rw [List.pairwise_iff_getElem]
  intro i j hi hj hij
  unfold ix
  rw [h.idxOf_getElem, h.idxOf_getElem]
  exact hij
theorem pair_tri {R : Int → Int → Prop} : ∀ {l : List Int}, l.Pairwise R → ∀ {x y : Int}, x ∈ l → y ∈ l → x = y ∨ R x y ∨ R y x
  | [], _, _, _, hx, _ => absurd hx (by simp)
  | a :: l, h, x, y, hx, hy => by
    obtain ⟨h1, h2⟩ := List.pairwise_cons.mp h
    rcases List.mem_cons.mp hx with ex | hx' <;> rcases List.mem_cons.mp hy with ey | hy'
    · exact .inl (ex.trans ey.symm)
    · exact .inr (.inl (ex ▸ h1 y hy'))
    · exact .inr (.inr (ey ▸ h1 x hx'))
    · exact pair_tri h2 hx' hy'
/-- in a rising list all stand right -/
theorem sr_inc {o l : List Int} (h : o.Nodup) (hs : l.Sublist o) (hi : l.Pairwise (· < ·)) {x y : Int} (hx : x ∈ l) (hy : y ∈ l) : sr o x y = true := by
  have hp : l.Pairwise fun a b => ix o a < ix o b ∧ a < b := ((ix_rise h).sublist hs).and hi
  unfold sr
  rcases pair_tri hp hx hy with e | ⟨h1, h2⟩ | ⟨h1, h2⟩
  · simp [e]
  · simp [h1, h2]
  · have a1 : ¬ ix o x < ix o y := by omega
    have a2 : ¬ x < y := by omega
    simp [a1, a2]
theorem sr_lt {o : List Int} {x y : Int} (h : sr o x y = true) (hn : x ≠ y) : ix o x < ix o y ↔ x < y := by
  unfold sr at h
  simp [hn] at h
  exact h
theorem sr_symm {o : List Int} {x y : Int} (hx : x ∈ o) (h : sr o x y = true) : sr o y x = true := by
  by_cases e : x = y
  · subst e; exact h
  · have h1 := sr_lt h e
    have h2 : ix o x ≠ ix o y := fun q => e (ix_inj hx q)
    have : ix o y < ix o x ↔ y < x := by omega
    unfold sr
    simp [this]
/-- a sublist of books that all stand right with each other rises -/
theorem inc_of_sr {o l : List Int} (h : o.Nodup) (hs : l.Sublist o) (hr : ∀ x ∈ l, ∀ y ∈ l, sr o x y = true) : l.Pairwise (· < ·) := by
  have hp := (ix_rise h).sublist hs
  refine hp.imp_of_mem fun {a b} ha hb hab => ?_
  have hn : a ≠ b := fun e => by subst e; exact absurd hab (Nat.lt_irrefl _)
  exact (sr_lt (hr a ha b hb) hn).mp hab
def free (o n : List Int) : List Int := o.filter fun b => n.all (sr o b)
/-- no two nailed books stand wrong -/
def NoClash (o n : List Int) : Prop := ∀ a ∈ n, ∀ b ∈ n, a < b → sr o a b = true
theorem NoClash.all {o n : List Int} (h : NoClash o n) (hn : ∀ b ∈ n, b ∈ o) : ∀ a ∈ n, ∀ b ∈ n, sr o a b = true := fun a ha b hb => by
  rcases Int.lt_trichotomy a b with c | c | c
  · exact h a ha b hb c
  · subst c; unfold sr; simp
  · exact sr_symm (hn b hb) (h b hb a ha c)
theorem nailed_free {o n : List Int} (h : NoClash o n) (hn : ∀ b ∈ n, b ∈ o) {b : Int} (hb : b ∈ n) : b ∈ free o n := by
  unfold free
  rw [List.mem_filter, List.all_eq_true]
  exact ⟨hn b hb, fun c hc => h.all hn b hb c hc⟩
theorem free_sub (o n : List Int) : (free o n).Sublist o := List.filter_sublist
/-- the heaviest rising list of free books has every nailed one -/
theorem best_nailed {o n w l : List Int} (hB : Bks o w) (h : NoClash o n) (hn : ∀ b ∈ n, b ∈ o) (hb : Best (free o n) w l) : ∀ b ∈ n, b ∈ l := by
  intro b hbn
  refine Classical.byContradiction fun hnl => ?_
  let l' := (free o n).filter fun x => decide (x = b) || decide (x ∈ l)
  have s' : l'.Sublist (free o n) := List.filter_sublist
  have nd : (free o n).Nodup := hB.nd.sublist (free_sub o n)
  have hls : ∀ x ∈ l, x ∈ free o n := fun x hx => hb.sub.subset hx
  have fr : ∀ x ∈ free o n, sr o x b = true := fun x hx => by
    have := (List.mem_filter.mp hx).2
    exact List.all_eq_true.mp this b hbn
  have mem' : ∀ x ∈ l', x = b ∨ x ∈ l := fun x hx => by
    have := (List.mem_filter.mp hx).2
    simpa using this
  have inc : l'.Pairwise (· < ·) := by
    refine inc_of_sr hB.nd (s'.trans (free_sub o n)) fun x hx y hy => ?_
    rcases mem' x hx with e | hx' <;> rcases mem' y hy with e' | hy'
    · subst e; subst e'; unfold sr; simp
    · subst e
      exact sr_symm ((free_sub o n).subset (hls y hy')) (fr y (hls y hy'))
    · subst e'; exact fr x (hls x hx')
    · exact sr_inc hB.nd (hb.sub.trans (free_sub o n)) hb.inc hx' hy'
  have top := hb.top l' s' inc
  have pm : l'.Perm (b :: l) := by
    rw [List.perm_ext_iff_of_nodup (nd.sublist s') (List.nodup_cons.mpr ⟨hnl, nd.sublist hb.sub⟩)]
    intro x
    refine ⟨fun hx => ?_, fun hx => ?_⟩
    · rcases mem' x hx with e | hx'
      · rw [e]; exact List.mem_cons_self
      · exact List.mem_cons_of_mem _ hx'
    · rcases List.mem_cons.mp hx with e | hx'
      · subst e
        exact List.mem_filter.mpr ⟨nailed_free h hn hbn, by simp⟩
      · exact List.mem_filter.mpr ⟨hls x hx', by simp [hx']⟩
  rw [sumW_perm pm, sumW_cons] at top
  have := hB.pos (hn b hbn)
  omega
/-- a rising list with every nailed book has only free ones -/
theorem good_free {o n l : List Int} (hd : o.Nodup) (hs : l.Sublist o) (hi : l.Pairwise (· < ·)) (hn : ∀ b ∈ n, b ∈ l) : l.Sublist (free o n) := by
  have : l.filter (fun b => n.all (sr o b)) = l := List.filter_eq_self.mpr fun x hx => List.all_eq_true.mpr fun b hb => sr_inc hd hs hi hx (hn b hb)
  rw [← this]
  exact hs.filter _
/-- what the law's order, weights and nailed ones are -/
structure Row (o w n : List Int) : Prop where
  pm : o.Perm (rng 0 o.length)
  ne : 1 ≤ o.length
  le : o.length ≤ 24
  wl : w.length = o.length
  lo : ∀ x ∈ w, 1 ≤ x
  hi : ∀ x ∈ w, x ≤ 9
  nr : n.Pairwise (· < ·)
  nb : ∀ b ∈ n, b ∈ o
theorem Row.mem {o w n : List Int} (h : Row o w n) {b : Int} : b ∈ o ↔ 0 ≤ b ∧ b < o.length := (h.pm.mem_iff).trans mem_rng
theorem Row.bks {o w n : List Int} (h : Row o w n) : Bks o w where
  rg b hb := by have := h.mem.mp hb; have := h.wl; omega
  po := h.lo
  nd := h.pm.nodup_iff.mpr (rng_nodup _ _)
  le := Nat.le_trans h.le (by omega)
theorem inc_len_aux : ∀ {n : List Int} {a m : Int}, n.Pairwise (· < ·) → (∀ b ∈ n, a ≤ b ∧ b < m) → (n.length : Int) ≤ 0 ∨ (n.length : Int) ≤ m - a
  | [], _, _, _, _ => .inl (by simp)
  | x :: l, a, m, hr, hb => by
    obtain ⟨h1, h2⟩ := List.pairwise_cons.mp hr
    have hx := hb x List.mem_cons_self
    have := inc_len_aux (a := x + 1) (m := m) h2 fun b hbl => ⟨by have := h1 b hbl; omega, (hb b (List.mem_cons_of_mem _ hbl)).2⟩
    rw [List.length_cons]
    omega
theorem inc_len {n : List Int} {m : Nat} (hr : n.Pairwise (· < ·)) (hb : ∀ b ∈ n, 0 ≤ b ∧ b < m) : n.length ≤ m := by
  have := inc_len_aux hr hb
  omega
theorem Row.nl {o w n : List Int} (h : Row o w n) : n.length ≤ o.length := inc_len h.nr fun b hb => h.mem.mp (h.nb b hb)
end PU
namespace Fw
open PySem L2 PU
theorem sr_ok {o : List Int} {a b : Int} (ha : a ∈ o) (hb : b ∈ o) : stand_right o a b = some (sr o a b) := by
  unfold stand_right
  simp only [Option.bind_some, idx_of ha, idx_of hb]
  unfold sr ix
  by_cases e : a = b
  · simp [e]
  · simp only [e, decide_false, Bool.false_eq_true, if_false, Bool.false_or]
    by_cases c : a < b <;> by_cases d : List.idxOf a o < List.idxOf b o <;> simp [c, d, -Nat.not_lt]
    all_goals omega
theorem free_ok {o n : List Int} (hn : ∀ b ∈ n, b ∈ o) (hl : o.length ≤ 100000) (hl' : n.length ≤ 100000) : free_ones o n = some (free o n) := by
  unfold free_ones
  simp only [Option.bind_some]
  refine lc_filter hl fun x hx => ?_
  rw [lc_map (f' := sr o x) hl' fun b hb => sr_ok hx (hn b hb)]
  simp only [Option.bind_some]
  congr 1
  rw [List.all_map]
  rfl
theorem clash_ok {o n : List Int} (hn : ∀ b ∈ n, b ∈ o) : Ok (clash o n) fun r => (r = none ∧ NoClash o n) ∨ ∃ a b, r = some (a, b) ∧ a ∈ n ∧ b ∈ n ∧ a < b ∧ sr o a b = false := by
  unfold clash
  simp only [Option.bind_some]
  refine Ok.bind (Ok.forB (fun k _ => ∀ i a, i < k → n[i]? = some a → ∀ b ∈ n, a < b → sr o a b = true) (fun r => ∃ a b, r = some (a, b) ∧ a ∈ n ∧ b ∈ n ∧ a < b ∧ sr o a b = false) (fun i a h => by omega) ?_) ?_
  · intro i _ a ea hP
    have ham := List.mem_of_getElem? ea
    refine Ok.bind (Ok.forB (β := Option (Int × Int)) (fun k _ => ∀ j b, j < k → n[j]? = some b → a < b → sr o a b = true) (fun r => ∃ a b, r = some (a, b) ∧ a ∈ n ∧ b ∈ n ∧ a < b ∧ sr o a b = false) (fun i a h => by omega) ?_) ?_
    · intro j _ b eb hQ
      have hbm := List.mem_of_getElem? eb
      have go : (a < b → sr o a b = true) → ∀ j' b', j' < j + 1 → n[j']? = some b' → a < b' → sr o a b' = true := fun hc j' b' hj he hlt => by
        by_cases c : j' = j
        · subst c
          rw [eb] at he
          cases he
          exact hc hlt
        · exact hQ j' b' (by omega) he hlt
      simp only [sr_ok (hn a ham) (hn b hbm), Option.bind_some]
      by_cases c : a < b
      · cases d : sr o a b with
        | true =>
          simp only [c, decide_true, if_true, Bool.not_true, Option.bind_some, Bool.false_eq_true, if_false]
          exact .pure (.inl ⟨(), rfl, go fun _ => d⟩)
        | false =>
          simp only [c, decide_true, if_true, Bool.not_false, Option.bind_some]
          exact .pure (.inr ⟨_, rfl, a, b, rfl, ham, hbm, c, d⟩)
      · simp only [c, decide_false, Bool.false_eq_true, if_false, Option.bind_some]
        exact .pure (.inl ⟨(), rfl, go fun h => absurd h c⟩)
    · rintro r (⟨y, rfl, hQ⟩ | ⟨y, rfl, hQ⟩)
      · refine .pure (.inl ⟨(), rfl, fun i' a' hi he b hb hlt => ?_⟩)
        by_cases c : i' = i
        · subst c
          rw [ea] at he
          cases he
          obtain ⟨j, hj⟩ := List.mem_iff_getElem?.mp hb
          exact hQ j b (List.getElem?_eq_some_iff.mp hj).1 hj hlt
        · exact hP i' a' (by omega) he b hb hlt
      · exact .pure (.inr ⟨_, rfl, hQ⟩)
  · rintro r (⟨y, rfl, hQ⟩ | ⟨y, rfl, hQ⟩)
    · refine .pure (.inl ⟨rfl, fun a ha b hb hlt => ?_⟩)
      obtain ⟨i, hi⟩ := List.mem_iff_getElem?.mp ha
      exact hQ i a (List.getElem?_eq_some_iff.mp hi).1 hi b hb hlt
    · exact .pure (.inr hQ)
end Fw

set_option Elab.async false
set_option linter.all false
/-! M5: the checks, the plan, least. -/
namespace PU
open PySem L2
variable {α : Type}
theorem cut_from (xs : List α) {i : Int} (h : 0 ≤ i) : cut xs (some i) none = xs.drop i.toNat := by
  unfold cut
  rw [show i = ((i.toNat : Nat) : Int) by omega, HT.sIx_nat, HT.sIx_none, Int.toNat_natCast]
  rcases Nat.le_total i.toNat xs.length with c | c
  · rw [Nat.min_eq_left c]
    exact List.take_of_length_le (by simp)
  · rw [Nat.min_eq_right c, List.drop_of_length_le c]
    simp
theorem cut_to (xs : List α) {i : Int} (h : 0 ≤ i) : cut xs none (some i) = xs.take i.toNat := by
  unfold cut
  rw [show i = ((i.toNat : Nat) : Int) by omega, HT.sIx_nat, HT.sIx_none, Int.toNat_natCast]
  rw [List.drop_zero, Nat.sub_zero]
  rcases Nat.le_total i.toNat xs.length with c | c
  · rw [Nat.min_eq_left c]
  · rw [Nat.min_eq_right c, List.take_of_length_le (Nat.le_refl _), List.take_of_length_le c]
theorem lc_trues {f : α → Option Bool} {xs : List α} (hl : xs.length ≤ 100000) (h : ∀ x ∈ xs, f x = some true) : ∃ bs, lc? (fun _ => some true) f xs = some bs ∧ bs.all id = true :=
  ⟨_, lc_map (f' := fun _ => true) hl h, by rw [List.all_map, List.all_eq_true]; intro _ _; rfl⟩
theorem rise_at {n : List Int} (h : n.Pairwise (· < ·)) : ∀ p ∈ n.zip (n.drop 1), p.1 < p.2 := by
  intro p hp
  obtain ⟨i, hi⟩ := List.mem_iff_getElem?.mp hp
  obtain ⟨h1, h2⟩ := List.getElem?_zip_eq_some.mp hi
  rw [List.getElem?_drop] at h2
  obtain ⟨a1, a2⟩ := List.getElem?_eq_some_iff.mp h1
  obtain ⟨b1, b2⟩ := List.getElem?_eq_some_iff.mp h2
  have := List.pairwise_iff_getElem.mp h i (1 + i) a1 b1 (by omega)
  rw [a2, b2] at this
  exact this
end PU
namespace Fw
open PySem L2 PU
theorem check_ok {o w n : List Int} (h : Row o w n) : check_three o w n = some () := by
  unfold check_three check_all check_nailed check_weights are_books is_between is_whole
  simp only [Option.bind_some]
  obtain ⟨hp, hne, hle, hwl, hlo, hhi, hnr, hnb⟩ := h
  have hnl := Row.nl ⟨hp, hne, hle, hwl, hlo, hhi, hnr, hnb⟩
  have e1 : lc? (fun _ => some true) (fun _ : Int => some true) o = some (o.map fun _ => true) := lc_map (by omega) fun _ _ => rfl
  have e2 : lc? (fun _ => some true) (fun x9 : Int => if (1 : Int) ≤ x9 then some (decide (x9 ≤ 9)) else some false) w = some (w.map fun _ => true) := lc_map (by omega) fun x hx => by
    rw [if_pos (hlo x hx)]
    have := hhi x hx
    simp [this]
  have e3 : lc? (fun _ => some true) (fun x5 : Int => if (0 : Int) ≤ x5 then some (decide (x5 ≤ (o.length : Int) - 1)) else some false) n = some (n.map fun _ => true) := lc_map (by omega) fun x hx => by
    have hx := (hp.mem_iff.trans mem_rng).mp (hnb x hx)
    rw [if_pos hx.1]
    have : x ≤ (o.length : Int) - 1 := by omega
    simp [this]
  have e4 : lc? (fun _ => some true) (fun a20 : Int × Int => some (decide (a20.snd ≤ a20.fst))) (n.zip (cut n (some 1) none)) = some ((n.zip (cut n (some 1) none)).map fun _ => false) := lc_map (by rw [List.length_zip]; omega) fun x hx => by
    rw [cut_from n (by omega)] at hx
    have := rise_at hnr x hx
    have : ¬ x.2 ≤ x.1 := by omega
    simp [this]
  have e5 : sort? o = some (rng 0 o.length) := by
    unfold sort?
    rw [if_pos (by omega)]
    congr 1
    exact sorted_eq ((isort_perm o).trans hp) (isort_sorted o) ((rng_rise _ _).imp fun h => by omega)
  have all1 : ∀ l : List Int, (l.map fun _ => true).all id = true := fun l => by rw [List.all_map, List.all_eq_true]; intro _ _; rfl
  have any1 : ∀ l : List (Int × Int), (l.map fun _ => false).any id = false := fun l => by rw [List.any_map, List.any_eq_false]; intro _ _ h; cases h
  have c1 : (1 : Int) ≤ (o.length : Int) := by omega
  have c2 : (o.length : Int) ≤ 24 := by omega
  have c3 : (w.length : Int) = (o.length : Int) := by omega
  simp only [e1, e5, rng_ok (a := (o.length : Int)) (by omega) (by omega), c1, c2, c3, decide_true, decide_false, Bool.not_true, Bool.not_false, Bool.false_eq_true, if_true, if_false, Option.bind_some, all1, e2, e3, e4, any1, decide_eq_true_eq]
/-- what least gives -/
def LeastOk (o w n : List Int) (r : Ans) : Prop :=
  (NoClash o n ∧ ∃ l p, r = .least l p ∧ Best (free o n) w l ∧ Papered (free o n) w p ∧ staying (free o n) w = some l ∧ paper (free o n) w = some p) ∨
  ∃ a b, r = .stuck a b ∧ a ∈ n ∧ b ∈ n ∧ a < b ∧ sr o a b = false
theorem least_ok {o w n : List Int} (h : Row o w n) : Ok (least o w n) (LeastOk o w n) := by
  unfold least
  simp only [Option.bind_some, check_ok h]
  refine Ok.bind (clash_ok h.nb) ?_
  rintro r (⟨rfl, hc⟩ | ⟨a, b, rfl, h1, h2, h3, h4⟩)
  · have hn := h.nl
    have hl := h.le
    have hb := h.bks.sub (free_sub o n)
    obtain ⟨l, e1, q1⟩ := staying_ok hb
    obtain ⟨p, e2, q2⟩ := paper_ok hb h.hi
    have pl : p.length ≤ 100000 := by
      obtain ⟨⟨t, m, t1, t2, t3, t4⟩, po⟩ := q2
      have : p.length ≤ (rowsOf p).length := by
        clear e2 t4
        induction p with
        | nil => simp
        | cons r p ih =>
          have := ih fun x hx => po x (List.mem_cons_of_mem _ hx)
          have := po r List.mem_cons_self
          have e : rowsOf (r :: p) = List.replicate r.2.toNat r.1 ++ rowsOf p := by unfold rowsOf; rw [List.flatMap_cons]
          rw [e, List.length_append, List.length_replicate, List.length_cons]
          omega
      rw [t4, List.length_map] at this
      have lm : (rng 1 (m + 1)).length = m.toNat := by simp [rng]
      have hm9 : m ≤ 1000 := by
        rcases List.mem_append.mp (maxL_spec t3).1 with mm | mm
        · rw [List.mem_singleton.mp mm]; omega
        · obtain ⟨i, hi⟩ := List.mem_iff_getElem?.mp mm
          have il : i < t.length := by
            have := (List.getElem?_eq_some_iff.mp hi).1
            simpa using this
          rw [List.getElem?_map, th_at il] at hi
          have hi := Option.some.inj hi
          simp only at hi
          have := tall_le hb h.hi t2 (i + 1) i (by omega) (by omega)
          have := hb.le
          omega
      omega
    simp only [free_ok h.nb (show o.length ≤ 100000 by omega) (show n.length ≤ 100000 by omega), Option.bind_some, Option.isNone_none, Bool.not_true, Bool.false_eq_true, if_false, e1, e2]
    unfold mk_Least
    simp only [Option.bind_some]
    rw [lc_map (f' := fun x => x) pl fun x _ => rfl]
    simp only [List.map_id', Option.bind_some]
    exact .pure (.inl ⟨hc, l, p, rfl, q1, q2, e1, e2⟩)
  · simp only [Option.isNone_some, Bool.not_false, if_true, Option.bind_some, mk_Stuck]
    exact .pure (.inr ⟨a, b, rfl, h1, h2, h3, h4⟩)
theorem place_ok {here s : List Int} {b : Int} (hl : here.length ≤ 10000) (hl' : s.length ≤ 10000) (hs : ∀ x ∈ s, x ∈ here) : Ok (place_among here b s) fun i => 0 ≤ i ∧ i ≤ here.length := by
  unfold place_among
  simp only [Option.bind_some]
  rw [lc_filter (c' := fun x => !decide (x = b)) (by omega) fun _ _ => rfl, lc_filter (c' := fun x => decide (x < b)) (by omega) fun _ _ => rfl]
  simp only [Option.bind_some]
  refine Ok.ite (fun e => ?_) fun e => .pure (by omega)
  have e : s.filter (fun x => decide (x < b)) ≠ [] := by simpa using e
  obtain ⟨m, hm⟩ : ∃ m, maxL (s.filter (fun x => decide (x < b))) = some m := by
    cases q : s.filter (fun x => decide (x < b)) with
    | nil => exact absurd q e
    | cons a as => exact ⟨_, rfl⟩
  have mm := List.mem_filter.mp (maxL_spec hm).1
  have hlt : m < b := by simpa using mm.2
  have hin : m ∈ here.filter (fun x => !decide (x = b)) := List.mem_filter.mpr ⟨hs m mm.1, by simp; omega⟩
  simp only [hm, Option.bind_some, idx_of hin]
  have h1 := List.idxOf_lt_length_of_mem hin
  have h2 : (here.filter (fun x => !decide (x = b))).length ≤ here.length := List.length_filter_le _ _
  exact .pure ⟨by omega, by omega⟩
theorem put_ok {here : List Int} {b i : Int} (hl : here.length ≤ 10000) (hd : here.Nodup) (hb : b ∈ here) (hi : 0 ≤ i) : Ok (put_at here b i) fun r => r.Perm here := by
  unfold put_at
  simp only [Option.bind_some]
  rw [lc_filter (c' := fun x => !decide (x = b)) (by omega) fun _ _ => rfl]
  simp only [Option.bind_some]
  have h2 : (here.filter (fun x => !decide (x = b))).length ≤ here.length := List.length_filter_le _ _
  rw [cut_to _ hi, cut_from _ hi]
  generalize hr : here.filter (fun x => !decide (x = b)) = rest at h2
  have l1 : (rest.take i.toNat).length ≤ rest.length := by rw [List.length_take]; omega
  have l2 : (rest.drop i.toNat).length ≤ rest.length := by rw [List.length_drop]; omega
  simp only [cat_ok (show (rest.take i.toNat).length + [b].length ≤ 100000 by simp only [List.length_singleton]; omega), Option.bind_some]
  refine Ok.eq (cat_ok (by rw [List.length_append, List.length_singleton]; omega)) ?_
  have p1 : (rest.take i.toNat ++ [b] ++ rest.drop i.toNat).Perm (b :: rest) := by
    rw [List.append_assoc]
    refine (List.perm_middle (a := b) (l₁ := rest.take i.toNat) (l₂ := rest.drop i.toNat)).trans ?_
    rw [List.take_append_drop]
  refine p1.trans ?_
  have ndr : rest.Nodup := hr ▸ hd.filter _
  have nm : b ∉ rest := fun h => by
    rw [← hr] at h
    have := (List.mem_filter.mp h).2
    simp at this
  rw [List.perm_ext_iff_of_nodup (List.nodup_cons.mpr ⟨nm, ndr⟩) hd]
  intro x
  rw [List.mem_cons, ← hr, List.mem_filter]
  by_cases c : x = b
  · subst c; simp [hb]
  · simp [c]
/-- what takings gives: nothing when there is a clash, or the books off the staying list, each once -/
theorem takings_ok {o w n : List Int} (h : Row o w n) : Ok (takings o w n) fun r => (NoClash o n ∧ ∃ l f, staying (free o n) w = some l ∧ r = some f ∧ f.map (·.1) = (rng 0 o.length).filter fun b => !decide (b ∈ l)) ∨
    (r = none ∧ ∃ a b, a ∈ n ∧ b ∈ n ∧ a < b ∧ sr o a b = false) := by
  unfold takings
  simp only [Option.bind_some, check_ok h]
  refine Ok.bind (Ok.bind (clash_ok h.nb) (B := fun b => (b = false ∧ NoClash o n) ∨ (b = true ∧ ∃ a b, a ∈ n ∧ b ∈ n ∧ a < b ∧ sr o a b = false)) ?_) ?_
  · rintro r (⟨rfl, hc⟩ | ⟨a, b, rfl, h1⟩)
    · exact .pure (.inl ⟨rfl, hc⟩)
    · exact .pure (.inr ⟨rfl, a, b, h1⟩)
  · rintro r (⟨rfl, hc⟩ | ⟨rfl, hc⟩)
    · have hn := h.nl
      have hl := h.le
      have hB := h.bks
      have hb := hB.sub (free_sub o n)
      obtain ⟨l, e1, q1⟩ := staying_ok hb
      simp only [free_ok h.nb (show o.length ≤ 100000 by omega) (show n.length ≤ 100000 by omega), Option.bind_some, Bool.false_eq_true, if_false, e1, rng_ok (a := (o.length : Int)) (by omega) (by omega)]
      have hlo : ∀ x ∈ l, x ∈ o := fun x hx => (free_sub o n).subset (q1.sub.subset hx)
      have hll : l.length ≤ 24 := by
        have := (q1.sub.trans (free_sub o n)).length_le
        omega
      refine Ok.bind (Ok.forS (fun k (s : List Int × List Int × List (Int × Int)) => s.2.1.Perm o ∧ (∀ x ∈ s.1, x ∈ o) ∧ (∀ x : Int, (k : Int) ≤ x → (x ∈ s.1 ↔ x ∈ l)) ∧ s.1.length ≤ 24 + k ∧ s.2.2.length ≤ k ∧ s.2.2.map (·.1) = ((rng 0 o.length).take k).filter fun b => !decide (b ∈ l)) ⟨.refl _, hlo, fun _ _ => .rfl, by omega, by simp, by simp⟩ ?_) ?_
      · rintro k ⟨s, here, f⟩ b eb ⟨p1, p2, p3, p4, p5, p6⟩
        simp only at p1 p2 p3 p4 p5 p6
        obtain ⟨b1, b2⟩ := rng_at eb
        simp only [Int.zero_add] at b1 b2
        have hbo : b ∈ o := h.mem.mpr (by omega)
        have lenk : k < 24 := by omega
        have hl2 := p1.length_eq
        have tk : (rng 0 (o.length : Int)).take (k + 1) = (rng 0 (o.length : Int)).take k ++ [b] := by
          rw [List.take_add_one, eb]; rfl
        rw [tk, List.filter_append]
        have hbl := p3 b (by omega)
        by_cases c : b ∈ s
        · have c2 := hbl.mp c
          simp only [c, decide_true, Bool.not_true, Bool.false_eq_true, if_false, Option.bind_some]
          refine .pure ⟨p1, p2, fun x hx => p3 x (by omega), by simp only; omega, by simp only; omega, ?_⟩
          simp [p6, c2]
        · have c2 : b ∉ l := fun q => c (hbl.mpr q)
          simp only [c, decide_false, Bool.not_false, if_true]
          refine Ok.bind (A := fun s' : List Int × List Int × List (Int × Int) => ∃ i here', s' = (s ++ [b], here', f ++ [(b, i)]) ∧ here'.Perm o) ?_ ?_
          · refine Ok.bind (place_ok (by omega) (by omega) fun x hx => p1.mem_iff.mpr (p2 x hx)) fun i hi => ?_
            simp only [PU.app_ok (show f.length < 100000 by omega), Option.bind_some]
            refine Ok.bind (put_ok (by omega) (p1.nodup_iff.mpr hB.nd) (p1.mem_iff.mpr hbo) hi.1) fun here' hh => ?_
            simp only [cat_ok (show s.length + [b].length ≤ 100000 by simp only [List.length_singleton]; omega), Option.bind_some]
            exact .pure ⟨i, here', rfl, hh.trans p1⟩
          · rintro _ ⟨i, here', rfl, hh⟩
            refine .pure ⟨hh, fun x hx => ?_, fun x hx => ?_, ?_, ?_, ?_⟩
            · rcases List.mem_append.mp hx with hx | hx
              · exact p2 x hx
              · rw [List.mem_singleton.mp hx]; exact hbo
            · rw [List.mem_append, List.mem_singleton, ← p3 x (by omega)]
              have : x ≠ b := by omega
              simp [this]
            · simp only [List.length_append, List.length_singleton]; omega
            · simp only [List.length_append, List.length_singleton]; omega
            · simp [p6, c2]
      · rintro ⟨s, here, f⟩ ⟨p1, p2, p3, p4, p5, p6⟩
        refine .pure (.inl ⟨hc, l, f, rfl, rfl, ?_⟩)
        simp only at p6
        rw [p6, List.take_length]
    · simp only [if_true]
      exact .pure (.inr ⟨rfl, hc⟩)
end Fw

set_option Elab.async false
set_option linter.all false
/-! M6: what the law makes of its script: an order, weights, nailed ones. -/
namespace PU
open PySem L2
variable {α : Type}
theorem big_pow : 2 ^ 200 < 2 ^ 4000 := Nat.pow_lt_pow_right (a := 2) (m := 200) (n := 4000) (by decide) (by decide)
theorem Ok.mul {i j : Int} (a b : Nat) (hi : i.natAbs ≤ a) (hj : j.natAbs ≤ b) (ha : a ≤ 2 ^ 200) (hb : b ≤ 2 ^ 200) : Ok (mul? i j) fun r => r = i * j ∧ r.natAbs ≤ a * b := by
  have := big_pow
  refine ⟨i * j, ?_, rfl, ?_⟩
  · unfold mul?
    rw [if_pos ⟨Nat.lt_of_le_of_lt (Nat.le_trans hi ha) this, Nat.lt_of_le_of_lt (Nat.le_trans hj hb) this⟩]
  · rw [Int.natAbs_mul]
    exact Nat.mul_le_mul hi hj
theorem Ok.fmod {i j : Int} (h : 0 < j) : Ok (fmod? i j) fun r => r = i.fmod j ∧ 0 ≤ r ∧ r < j := by
  refine ⟨i.fmod j, ?_, rfl, Int.fmod_nonneg_of_pos _ h, Int.fmod_lt_of_pos _ h⟩
  unfold fmod?
  rw [if_pos (by omega)]
theorem Ok.fdiv {i j : Int} (h : 0 < j) (h' : j < 1073741824) : Ok (fdiv? i j) fun r => r = i.fdiv j := by
  refine ⟨i.fdiv j, ?_, rfl⟩
  unfold fdiv?
  rw [if_pos ⟨by omega, by omega⟩]
theorem Ok.at {xs : List α} {i : Int} (h : 0 ≤ i) (h' : i < xs.length) : Ok (atI xs i) fun x => x ∈ xs := by
  rw [atI_int h]
  exact ⟨_, List.getElem?_eq_getElem (by omega), List.getElem_mem _⟩
theorem fdiv_small {i j : Int} (h : 0 ≤ i) (hj : 0 < j) : 0 ≤ i.fdiv j ∧ i.fdiv j ≤ i := by
  rw [Int.fdiv_eq_ediv_of_nonneg _ (by omega)]
  exact ⟨Int.ediv_nonneg h (by omega), Int.ediv_le_self _ h⟩
theorem rng_succ (k : Nat) : rng 0 ((k : Int) + 1) = rng 0 (k : Int) ++ [(k : Int)] := by
  unfold rng
  rw [show ((k : Int) + 1 - 0).toNat = k + 1 by omega, show ((k : Int) - 0).toNat = k by omega, List.range_succ, List.map_append]
  simp
theorem rng0_len (k : Nat) : (rng 0 (k : Int)).length = k := by simp [rng]
theorem insL_perm (xs : List α) (i : Nat) (x : α) : (insL xs i x).Perm (x :: xs) := by
  unfold insL
  rw [List.append_assoc]
  refine (List.perm_middle (a := x) (l₁ := xs.take i) (l₂ := xs.drop i)).trans ?_
  rw [List.take_append_drop]
theorem erase_perm (xs : List α) (i : Nat) (h : i < xs.length) : (xs[i] :: xs.eraseIdx i).Perm xs := by
  rw [List.eraseIdx_eq_take_drop_succ]
  refine (List.perm_middle (a := xs[i]) (l₁ := xs.take i) (l₂ := xs.drop (i + 1))).symm.trans ?_
  rw [← List.drop_eq_getElem_cons h, List.take_append_drop]
theorem Ok.ins {xs : List α} {i : Int} {x : α} (hl : xs.length < 100000) (h : 0 ≤ i) (h' : i ≤ 1000000) : Ok (ins? xs i x) fun ys => ys.Perm (x :: xs) := by
  refine ⟨_, ?_, insL_perm xs i.toNat x⟩
  unfold ins?
  rw [if_pos ⟨hl, h, by omega⟩]
theorem Ok.move {xs : List α} {i j : Int} (hl : xs.length < 100000) (h : 0 ≤ i) (h' : i ≤ 1000000) (hj : 0 ≤ j) (hj' : j < xs.length) : Ok (move? xs i j) fun ys => ys.Perm xs := by
  have e : ixN xs.length j = some j.toNat := by
    unfold ixN
    rw [if_pos hj, if_pos hj']
  have hlt : j.toNat < xs.length := by omega
  refine ⟨insL (xs.eraseIdx j.toNat) i.toNat xs[j.toNat], ?_, (insL_perm _ _ _).trans (erase_perm xs _ hlt)⟩
  unfold move?
  simp only [e, Option.bind_some, List.getElem?_eq_getElem hlt]
  rw [if_pos ⟨hl, h, by omega⟩]
theorem Ok.app {xs : List α} {x : α} (h : xs.length < 100000) : Ok (app? xs x) fun ys => ys = xs ++ [x] := ⟨_, PU.app_ok h, rfl⟩
theorem Ok.cat {xs ys : List α} (h : xs.length + ys.length ≤ 100000) : Ok (cat? xs ys) fun zs => zs = xs ++ ys := ⟨_, PU.cat_ok h, rfl⟩
theorem Ok.rng {a : Int} (h : 0 ≤ a) (h' : a ≤ 100000) : Ok (rng? 0 a) fun zs => zs = PU.rng 0 a := ⟨_, rng_ok h h', rfl⟩
theorem Ok.lcM {β : Type} {f : α → Option β} {A : β → Prop} : ∀ {xs : List α}, (∀ x ∈ xs, Ok (f x) A) → Ok (PU.lcM (fun _ => some true) f xs) fun ys => ys.length = xs.length ∧ ∀ y ∈ ys, A y
  | [], _ => ⟨_, rfl, rfl, fun _ h => absurd h (by simp)⟩
  | x :: xs, h => by
    show Ok ((f x).bind fun y => (PU.lcM (fun _ => some true) f xs).bind fun ys => some (y :: ys)) _
    refine Ok.bind (h x List.mem_cons_self) fun y hy => Ok.bind (Ok.lcM fun z hz => h z (List.mem_cons_of_mem _ hz)) fun ys hys => .pure ⟨by simp [hys.1], fun z hz => ?_⟩
    rcases List.mem_cons.mp hz with e | hz
    · exact e ▸ hy
    · exact hys.2 z hz
theorem Ok.lc {β : Type} {f : α → Option β} {A : β → Prop} {B : List β → Prop} {xs : List α} (hl : xs.length ≤ 100000) (h : ∀ x ∈ xs, Ok (f x) A) (k : ∀ ys : List β, ys.length = xs.length → (∀ y ∈ ys, A y) → B ys) : Ok (lc? (fun _ => some true) f xs) B := by
  unfold lc?
  rw [if_pos hl]
  exact (Ok.lcM h).mono fun ys hys => k ys hys.1 hys.2
/-- the cells of a script -/
def cells (s : Scr) : List Int := if s.ns = [] then [5] else s.ns.take 63
theorem cells_len (s : Scr) : 0 < (cells s).length := by
  unfold cells
  split
  · simp
  · rename_i h
    have := List.length_pos_iff.mpr h
    rw [List.length_take]
    omega
theorem cells_ok (s : Scr) : (if (!decide (s.ns = [])) = true then some (cut s.ns none (some 63)) else some [5]) = some (cells s) := by
  unfold cells
  by_cases h : s.ns = []
  · simp [h]
  · rw [cut_to _ (by omega)]
    simp [h]
end PU
namespace Fw
open PySem L2 PU
theorem number_ok {c a w : Int} (ha : 0 ≤ a) (ha' : a ≤ 1000) : Ok (_law_number c a w) fun _ => True := by
  unfold _law_number
  simp only [Option.bind_some]
  have e : pow? 10 18 = some (10 ^ 18) := rfl
  simp only [e, Option.bind_some]
  refine Ok.ite (fun _ => .pure trivial) fun _ => ?_
  refine Ok.bind (Ok.fmod (by decide)) fun small ⟨_, s1, s2⟩ => ?_
  refine Ok.bind (A := fun m => 0 ≤ m ∧ m < 2147483647) ?_ fun mixed ⟨m1, m2⟩ => ?_
  · refine Ok.bind (A := fun _ => True) ?_ fun x _ => (Ok.fmod (by decide)).mono fun r hr => hr.2
    refine Ok.bind (A := fun _ => True) ?_ fun x _ => Ok.bind (Ok.fmod (by decide)) fun y _ => .pure trivial
    refine Ok.bind (A := fun x => x.natAbs ≤ 10 ^ 10) ?_ fun x hx => (Ok.mul (10 ^ 10) 48271 hx (by decide) (by decide) (by decide)).mono fun _ _ => trivial
    refine Ok.bind (Ok.mul 977 1000 (by decide) (by omega) (by decide) (by decide)) fun y ⟨_, hy⟩ => .pure ?_
    omega
  · refine Ok.bind (A := fun x => x.natAbs ≤ 10 ^ 10 * 10 ^ 10 * 10 ^ 10) ?_ fun more hm => ?_
    · refine Ok.bind (A := fun x => x.natAbs ≤ 10 ^ 10 * 10 ^ 10) ?_ fun x hx => (Ok.mul (10 ^ 10 * 10 ^ 10) (10 ^ 10) hx (by omega) (by decide) (by decide)).mono fun _ h => h.2
      refine Ok.bind (A := fun x => x.natAbs ≤ 10 ^ 10) ?_ fun x hx => (Ok.mul (10 ^ 10) (10 ^ 10) (by omega) hx (by decide) (by decide)).mono fun _ h => h.2
      refine Ok.bind (A := fun x => x.natAbs ≤ 10 ^ 9 * 8) ?_ fun x hx => .pure (by omega)
      refine Ok.bind (Ok.mul 31 1000 (by decide) (by omega) (by decide) (by decide)) fun y ⟨_, hy⟩ => .pure ?_
      omega
    · refine Ok.bind (Ok.mul (10 ^ 31) (10 ^ 31) (by omega) (by omega) (by decide) (by decide)) fun y _ => (Ok.fdiv (by decide) (by decide)).mono fun _ _ => trivial
theorem num_mod {c a w d m : Int} (ha : 0 ≤ a) (ha' : a ≤ 1000) (hd : 0 < d) (hd' : d < 1073741824) (hm : 0 < m) : Ok (((_law_number c a w).bind fun x => fdiv? x d).bind fun x => fmod? x m) fun r => 0 ≤ r ∧ r < m := by
  refine Ok.bind (A := fun _ => True) ?_ fun x _ => (Ok.fmod hm).mono fun _ h => h.2
  refine Ok.bind (number_ok ha ha') fun x _ => (Ok.fdiv hd hd').mono fun _ _ => trivial
theorem order_ok (s : Scr) {b most : Int} (hb : 0 ≤ b) (hb' : b ≤ 100) (hm : 1 ≤ most) (hm' : most ≤ 100) : Ok (_law_order s b most) fun o => o.Perm (rng 0 o.length) ∧ 1 ≤ o.length ∧ o.length ≤ most := by
  unfold _law_order
  simp only [Option.bind_some]
  simp only [cells_ok, Option.bind_some]
  have cl := cells_len s
  generalize cells s = c at cl
  refine Ok.bind (A := fun m => 1 ≤ m ∧ m ≤ most) ?_ fun many ⟨n1, n2⟩ => ?_
  · refine Ok.bind (num_mod (by omega) (by omega) (by decide) (by decide) (by omega)) fun x ⟨h1, h2⟩ => .pure (by omega)
  refine Ok.bind (num_mod (by omega) (by omega) (by decide) (by decide) (by decide)) fun kind ⟨k1, k2⟩ => ?_
  obtain ⟨n, rfl⟩ : ∃ n : Nat, many = n := ⟨many.toNat, by omega⟩
  refine Ok.bind (A := fun o => o.Perm (rng 0 (n : Int))) ?_ fun o1 ho1 => ?_
  · refine Ok.bind (Ok.rng (by omega) (by omega)) ?_
    rintro _ rfl
    refine (Ok.forS (fun k (o : List Int) => o.Perm (rng 0 (k : Int))) (by exact .refl _) ?_).mono fun o ho => by rw [rng0_len] at ho; exact ho
    intro i o a ea ho
    obtain ⟨a1, a2⟩ := rng_at ea
    simp only [Int.zero_add] at a1 a2
    subst a1
    have ol : o.length = i := by rw [ho.length_eq, rng0_len]
    refine Ok.bind (A := fun _ => True) ?_ fun num _ => ?_
    · refine Ok.bind (A := fun _ => True) ?_ fun x _ => (Ok.fdiv (by decide) (by decide)).mono fun _ _ => trivial
      refine Ok.bind (A := fun _ => True) ?_ fun x _ => number_ok (by omega) (by omega)
      refine Ok.bind (Ok.bind (Ok.fmod (by omega)) fun x h => Ok.at h.2.1 h.2.2) fun x _ => ?_
      refine Ok.bind (Ok.mul 5 100 (by decide) (by omega) (by decide) (by decide)) fun y _ => .pure trivial
    · refine Ok.bind (A := fun x => 0 ≤ x ∧ x ≤ 1000000) ?_ fun spot hs => Ok.bind (Ok.ins (by omega) hs.1 hs.2) fun o' ho' => .pure ?_
      · refine Ok.bind (A := fun t : Tu Int => t.xs.length = 5 ∧ ∀ x ∈ t.xs, 0 ≤ x ∧ x ≤ 1000000) ?_ fun t ht => (Ok.at (xs := t.xs) k1 (by rw [ht.1]; exact k2)).mono fun x hx => ht.2 x hx
        refine Ok.bind (A := fun t : List Int => t.length = 5 ∧ ∀ x ∈ t, 0 ≤ x ∧ x ≤ 1000000) ?_ fun t ht => .pure ht
        refine Ok.bind (Ok.fmod (by omega)) fun x1 h1 => ?_
        refine Ok.bind (A := fun t : List Int => t.length = 4 ∧ ∀ x ∈ t, 0 ≤ x ∧ x ≤ 1000000) ?_ fun t ht => .pure ⟨by simp [ht.1], fun x hx => by
          rcases List.mem_cons.mp hx with e | hx
          · omega
          · exact ht.2 x hx⟩
        refine Ok.bind (Ok.fmod (by decide)) fun x2 h2 => ?_
        refine Ok.bind (A := fun t : List Int => t.length = 3 ∧ ∀ x ∈ t, 0 ≤ x ∧ x ≤ 1000000) ?_ fun t ht => .pure ⟨by simp [ht.1], fun x hx => by
          rcases List.mem_cons.mp hx with e | hx
          · omega
          · exact ht.2 x hx⟩
        refine Ok.bind (A := fun t : List Int => t.length = 2 ∧ ∀ x ∈ t, 0 ≤ x ∧ x ≤ 1000000) ?_ fun t ht => .pure ⟨by simp [ht.1], fun x hx => by
          rcases List.mem_cons.mp hx with e | hx
          · omega
          · exact ht.2 x hx⟩
        refine Ok.bind (Ok.bind (Ok.fmod (by decide)) fun x3 h3 => (Ok.mul 1 100 (by omega) (by omega) (by decide) (by decide)).mono (B := fun x => 0 ≤ x ∧ x ≤ 100) fun y hy => ⟨by rw [hy.1]; exact Int.mul_nonneg (by omega) (by omega), by omega⟩) fun y hy => .pure ⟨rfl, fun x hx => ?_⟩
        simp at hx
        omega
      · refine ho'.trans ((ho.cons _).trans ?_)
        rw [show (((i + 1 : Nat) : Int)) = (i : Int) + 1 by omega, rng_succ]
        exact (List.perm_append_singleton _ _).symm
  · have ol : o1.length = n := by rw [ho1.length_eq, rng0_len]
    refine Ok.bind (A := fun o => o.Perm (rng 0 (n : Int))) ?_ fun o2 ho2 => ?_
    · refine Ok.bind (A := fun _ => True) (Ok.ite (fun _ => .pure trivial) fun _ => .pure trivial) fun bb _ => ?_
      refine Ok.ite (fun _ => ?_) fun _ => .pure ho1
      refine Ok.bind (A := fun o => o.Perm (rng 0 (n : Int))) ?_ fun o ho => .pure ho
      refine Ok.bind (A := fun l => ∃ k : Int, 0 ≤ k ∧ k ≤ 100 ∧ l = rng 0 k) ?_ ?_
      · refine Ok.bind (Ok.fdiv (by decide) (by decide)) fun x hx => ?_
        have := fdiv_small (i := n) (j := 4) (by omega) (by decide)
        rw [← hx] at this
        exact (Ok.rng (by omega) (by omega)).mono fun l hl => ⟨x, by omega, by omega, hl⟩
      · rintro _ ⟨k, hk, hk', rfl⟩
        refine (Ok.forS (fun k (o : List Int) => o.Perm (rng 0 (n : Int))) ho1 ?_).mono fun o ho => ho
        intro i o a ea ho
        have ol2 : o.length = n := by rw [ho.length_eq, rng0_len]
        obtain ⟨a1, a2⟩ := rng_at ea
        simp only [Int.zero_add] at a1 a2
        refine Ok.bind (A := fun _ => True) ?_ fun num _ => ?_
        · refine Ok.bind (A := fun _ => True) ?_ fun x _ => (Ok.fdiv (by decide) (by decide)).mono fun _ _ => trivial
          refine Ok.bind (A := fun _ => True) ?_ fun x _ => number_ok (by omega) (by omega)
          refine Ok.bind (A := fun _ => True) ?_ fun x _ => .pure trivial
          exact Ok.bind (Ok.fmod (by omega)) fun x h => (Ok.at h.2.1 h.2.2).mono fun _ _ => trivial
        · refine Ok.bind (A := fun x : Int => 0 ≤ x ∧ x < n) ?_ fun p hp => ?_
          · refine Ok.bind (A := fun _ => True) ?_ fun x _ => (Ok.fmod (by omega)).mono fun _ h => h.2
            exact (Ok.fdiv (by decide) (by decide)).mono fun _ _ => trivial
          refine Ok.bind (Ok.fmod (by omega)) fun q hq => ?_
          exact Ok.bind (Ok.move (by omega) hp.1 (by omega) hq.2.1 (by omega)) fun o' ho' => .pure (ho'.trans ho)
    · have ol2 : o2.length = n := by rw [ho2.length_eq, rng0_len]
      refine Ok.bind (A := fun x => 0 ≤ x) ?_ fun sh hsh => ?_
      · refine Ok.ite (fun _ => ?_) fun _ => .pure (by omega)
        refine Ok.bind (Ok.fdiv (by decide) (by decide)) fun x _ => (Ok.fmod (by omega)).mono fun _ h => h.2.1
      · rw [cut_from _ hsh, cut_to _ hsh]
        refine (Ok.cat (by rw [List.length_drop, List.length_take]; omega)).mono ?_
        rintro o rfl
        have pm : (o2.drop sh.toNat ++ o2.take sh.toNat).Perm (rng 0 (n : Int)) := by
          refine (List.perm_append_comm).trans ?_
          rw [List.take_append_drop]
          exact ho2
        have le : (o2.drop sh.toNat ++ o2.take sh.toNat).length = n := by rw [pm.length_eq, rng0_len]
        rw [le]
        exact ⟨pm, by omega, by omega⟩
theorem weights_ok (s : Scr) {b : Int} {n : Nat} (hb : 0 ≤ b) (hb' : b ≤ 100) (hn : n ≤ 100) : Ok (_law_weights s b n) fun w => w.length = n ∧ ∀ x ∈ w, 1 ≤ x ∧ x ≤ 9 := by
  unfold _law_weights
  simp only [Option.bind_some]
  simp only [cells_ok, Option.bind_some]
  have cl := cells_len s
  generalize cells s = c at cl
  refine Ok.bind (num_mod (by omega) (by omega) (by decide) (by decide) (by decide)) fun kind ⟨k1, k2⟩ => ?_
  refine Ok.bind (A := fun w : List Int => w.length = n ∧ ∀ x ∈ w, 1 ≤ x ∧ x ≤ 9) ?_ fun w hw => .pure hw
  refine Ok.bind (Ok.rng (by omega) (by omega)) ?_
  rintro _ rfl
  refine (Ok.forS (fun k (w : List Int) => w.length = k ∧ ∀ x ∈ w, 1 ≤ x ∧ x ≤ 9) ⟨rfl, fun _ h => absurd h (by simp)⟩ ?_).mono fun o ho => by rw [rng0_len] at ho; exact ho
  intro i o a ea ⟨ol, ho⟩
  obtain ⟨a1, a2⟩ := rng_at ea
  simp only [Int.zero_add] at a1 a2
  refine Ok.bind (A := fun _ => True) ?_ fun num _ => ?_
  · refine Ok.bind (A := fun _ => True) ?_ fun x _ => (Ok.fdiv (by decide) (by decide)).mono fun _ _ => trivial
    refine Ok.bind (A := fun _ => True) ?_ fun x _ => number_ok (by omega) (by omega)
    refine Ok.bind (Ok.bind (Ok.fmod (by omega)) fun x h => Ok.at h.2.1 h.2.2) fun x _ => ?_
    refine Ok.bind (Ok.mul 3 100 (by decide) (by omega) (by decide) (by decide)) fun y _ => .pure trivial
  · refine Ok.bind (A := fun x => 1 ≤ x ∧ x ≤ 9) ?_ fun x hx => Ok.bind (Ok.app (by omega)) fun o' ho' => .pure ?_
    · refine Ok.bind (A := fun t : Tu Int => t.xs.length = 3 ∧ ∀ x ∈ t.xs, 1 ≤ x ∧ x ≤ 9) ?_ fun t ht => (Ok.at (xs := t.xs) k1 (by rw [ht.1]; exact k2)).mono fun x hx => ht.2 x hx
      refine Ok.bind (A := fun t : List Int => t.length = 3 ∧ ∀ x ∈ t, 1 ≤ x ∧ x ≤ 9) ?_ fun t ht => .pure ht
      refine Ok.bind (A := fun x => 1 ≤ x ∧ x ≤ 9) (Ok.bind (Ok.fmod (by decide)) fun x hx => .pure (by omega)) fun x1 h1 => ?_
      refine Ok.bind (A := fun t : List Int => t.length = 2 ∧ ∀ x ∈ t, 1 ≤ x ∧ x ≤ 9) ?_ fun t ht => .pure ⟨by simp [ht.1], fun x hx => by
        rcases List.mem_cons.mp hx with e | hx
        · omega
        · exact ht.2 x hx⟩
      refine Ok.bind (A := fun x => 1 ≤ x ∧ x ≤ 9) (Ok.bind (Ok.fmod (by decide)) fun x hx => .pure (by omega)) fun x2 h2 => ?_
      refine Ok.bind (A := fun t : List Int => t.length = 1 ∧ ∀ x ∈ t, 1 ≤ x ∧ x ≤ 9) ?_ fun t ht => .pure ⟨by simp [ht.1], fun x hx => by
        rcases List.mem_cons.mp hx with e | hx
        · omega
        · exact ht.2 x hx⟩
      refine Ok.bind (A := fun x => 1 ≤ x ∧ x ≤ 9) ?_ fun x hx => .pure ⟨rfl, fun y hy => by rw [List.mem_singleton.mp hy]; exact hx⟩
      refine Ok.bind (A := fun _ => True) (Ok.bind (Ok.fmod (by decide)) fun x hx => .pure trivial) fun bb _ => ?_
      exact Ok.ite (fun _ => .pure (by omega)) fun _ => .pure (by omega)
    · subst ho'
      refine ⟨by simp [ol], fun y hy => ?_⟩
      rcases List.mem_append.mp hy with hy | hy
      · exact ho y hy
      · rw [List.mem_singleton.mp hy]; exact hx
theorem nailed_ok (s : Scr) {b : Int} {n : Nat} (hb : 0 ≤ b) (hb' : b ≤ 100) (hn : 1 ≤ n) : Ok (_law_nailed s b n) fun l => l.Pairwise (· < ·) ∧ ∀ x ∈ l, 0 ≤ x ∧ x < n := by
  unfold _law_nailed
  simp only [Option.bind_some]
  simp only [cells_ok, Option.bind_some]
  have cl := cells_len s
  generalize cells s = c at cl
  refine Ok.bind (num_mod (by omega) (by omega) (by decide) (by decide) (by decide)) fun kind ⟨k1, k2⟩ => ?_
  refine Ok.bind (A := fun l : List Int => l.length < 60 ∧ ∀ x ∈ l, 0 ≤ x ∧ x < n) ?_ fun l hl => ?_
  · refine Ok.bind (A := fun l => ∃ k : Int, 0 ≤ k ∧ k ≤ 50 ∧ l = rng 0 k) ?_ ?_
    · refine Ok.bind (Ok.at k1 k2) fun x hx => ?_
      have : 0 ≤ x ∧ x ≤ 50 := by simp at hx; omega
      exact (Ok.rng (by omega) (by omega)).mono fun l hl => ⟨x, this.1, this.2, hl⟩
    · rintro _ ⟨k, hk, hk', rfl⟩
      refine Ok.lc (by rw [PU.rng_len]; omega) (fun a ha => ?_) fun ys h1 h2 => ⟨by rw [h1, PU.rng_len]; omega, h2⟩
      have ha := mem_rng.mp ha
      refine Ok.bind (A := fun _ => True) ?_ fun num _ => (Ok.fmod (by omega)).mono fun _ h => h.2
      refine Ok.bind (A := fun _ => True) ?_ fun x _ => (Ok.fdiv (by decide) (by decide)).mono fun _ _ => trivial
      refine Ok.bind (A := fun _ => True) ?_ fun x _ => number_ok (by omega) (by omega)
      refine Ok.bind (A := fun _ => True) ?_ fun x _ => .pure trivial
      exact Ok.bind (Ok.fmod (by omega)) fun x h => (Ok.at h.2.1 h.2.2).mono fun _ _ => trivial
  · refine ⟨sset l, ?_, sset_lt l, fun x hx => hl.2 x (mem_sset.mp hx)⟩
    unfold sset?
    rw [if_pos hl.1]
/-- order, weights and nailed ones of a script go together -/
theorem row_ok (s : Scr) {b most : Int} (hb : 0 ≤ b) (hb' : b ≤ 100) (hm : 1 ≤ most) (hm' : most ≤ 24) :
    ∃ o w n, _law_order s b most = some o ∧ _law_weights s b o.length = some w ∧ _law_nailed s b o.length = some n ∧ Row o w n ∧ o.length ≤ most := by
  obtain ⟨o, e1, o1, o2, o3⟩ := order_ok s hb hb' hm (by omega)
  obtain ⟨w, e2, w1, w2⟩ := weights_ok s (n := o.length) hb hb' (by omega)
  obtain ⟨n, e3, n1, n2⟩ := nailed_ok s (n := o.length) hb hb' o2
  exact ⟨o, w, n, e1, e2, e3, ⟨o1, o2, by omega, w1, fun x hx => (w2 x hx).1, fun x hx => (w2 x hx).2, n1, fun b hb => (o1.mem_iff.trans mem_rng).mpr (n2 b hb)⟩, o3⟩
end Fw

set_option Elab.async false
set_option linter.all false
/-! M7: the plan sets in order. -/
namespace PU
open PySem L2
def rest (here : List Int) (b : Int) : List Int := here.filter fun x => !decide (x = b)
def put (here : List Int) (b i : Int) : List Int := (rest here b).take i.toNat ++ [b] ++ (rest here b).drop i.toNat
theorem put_perm {here : List Int} {b i : Int} (hd : here.Nodup) (hb : b ∈ here) : (put here b i).Perm here := by
  have p1 : (put here b i).Perm (b :: rest here b) := by
    unfold put
    rw [List.append_assoc]
    refine (List.perm_middle (a := b) (l₁ := (rest here b).take i.toNat) (l₂ := (rest here b).drop i.toNat)).trans ?_
    rw [List.take_append_drop]
  refine p1.trans ?_
  have nm : b ∉ rest here b := fun h => by
    have := (List.mem_filter.mp h).2
    simp at this
  rw [List.perm_ext_iff_of_nodup (List.nodup_cons.mpr ⟨nm, hd.filter _⟩) hd]
  intro x
  unfold rest
  rw [List.mem_cons, List.mem_filter]
  by_cases c : x = b
  · subst c; simp [hb]
  · simp [c]
theorem rest_len {here : List Int} {b : Int} (hd : here.Nodup) (hb : b ∈ here) : (rest here b).length + 1 = here.length := by
  have := (put_perm (i := 0) hd hb).length_eq
  unfold put at this
  simp at this
  omega
/-- what is settled stands in order -/
def Sett (s here : List Int) : Prop := (here.filter fun x => decide (x ∈ s)).Pairwise (· < ·)
structure Place (here : List Int) (b : Int) (s : List Int) (i : Int) : Prop where
  lo : 0 ≤ i
  hi : i < here.length
  be : ∀ x ∈ (rest here b).take i.toNat, x ∈ s → x < b
  af : ∀ x ∈ (rest here b).drop i.toNat, x ∈ s → b < x
theorem sett_put {here s : List Int} {b i : Int} (hs : Sett s here) (hn : b ∉ s) (hp : Place here b s i) : Sett (s ++ [b]) (put here b i) := by
  have h1 : ((rest here b).filter fun x => decide (x ∈ s)).Pairwise (· < ·) := hs.sublist (List.Sublist.filter _ List.filter_sublist)
  rw [← List.take_append_drop i.toNat (rest here b), List.filter_append] at h1
  have e : ∀ l : List Int, (∀ x ∈ l, x ≠ b) → l.filter (fun x => decide (x ∈ s ++ [b])) = l.filter fun x => decide (x ∈ s) := fun l hl => List.filter_congr fun x hx => by
    have := hl x hx
    simp [this]
  have nb : ∀ x ∈ rest here b, x ≠ b := fun x hx => by
    have := (List.mem_filter.mp hx).2
    simpa using this
  obtain ⟨a1, a2, a3⟩ := List.pairwise_append.mp h1
  unfold Sett put
  rw [List.append_assoc, List.filter_append, List.filter_append, e _ fun x hx => nb x (List.take_subset _ _ hx), e _ fun x hx => nb x (List.drop_subset _ _ hx)]
  have eb : [b].filter (fun x => decide (x ∈ s ++ [b])) = [b] := by simp
  rw [eb]
  refine List.pairwise_append.mpr ⟨a1, List.pairwise_append.mpr ⟨List.pairwise_singleton _ _, a2, fun x hx y hy => ?_⟩, fun x hx y hy => ?_⟩
  · obtain ⟨y1, y2⟩ := List.mem_filter.mp hy
    rw [List.mem_singleton.mp hx]
    exact hp.af y y1 (by simpa using y2)
  · obtain ⟨x1, x2⟩ := List.mem_filter.mp hx
    have xb := hp.be x x1 (by simpa using x2)
    rcases List.mem_append.mp hy with hy | hy
    · rw [List.mem_singleton.mp hy]; exact xb
    · exact a3 x hx y hy
/-- every step of a plan can be -/
def Valid (n : List Int) : List Int → List (Int × Int) → Prop
  | _, [] => True
  | o, q :: f => q.1 ∈ o ∧ q.1 ∉ n ∧ 0 ≤ q.2 ∧ q.2 < o.length ∧ Valid n (put o q.1 q.2) f
def play (o : List Int) (f : List (Int × Int)) : List Int := f.foldl (fun o q => put o q.1 q.2) o
theorem play_app (o : List Int) (f : List (Int × Int)) (q : Int × Int) : play o (f ++ [q]) = put (play o f) q.1 q.2 := by
  unfold play; rw [List.foldl_append]; rfl
theorem valid_app {n : List Int} {q : Int × Int} : ∀ {f : List (Int × Int)} {o : List Int}, Valid n o f → q.1 ∈ play o f → q.1 ∉ n → 0 ≤ q.2 → q.2 < (play o f).length → Valid n o (f ++ [q])
  | [], o, _, h1, h2, h3, h4 => ⟨h1, h2, h3, h4, trivial⟩
  | r :: f, o, ⟨a, b, c, d, e⟩, h1, h2, h3, h4 => ⟨a, b, c, d, valid_app e h1 h2 h3 h4⟩
end PU
namespace Fw
open PySem L2 PU
theorem place_full {here s : List Int} {b : Int} (hl : here.length ≤ 10000) (hl' : s.length ≤ 10000) (hd : here.Nodup) (hb : b ∈ here) (hs : ∀ x ∈ s, x ∈ here) (hn : b ∉ s) (ho : Sett s here) : Ok (place_among here b s) (Place here b s) := by
  unfold place_among
  simp only [Option.bind_some]
  rw [lc_filter (c' := fun x => !decide (x = b)) (by omega) fun _ _ => rfl, lc_filter (c' := fun x => decide (x < b)) (by omega) fun _ _ => rfl]
  simp only [Option.bind_some]
  have rl := rest_len hd hb
  have h1 : ((rest here b).filter fun x => decide (x ∈ s)).Pairwise (· < ·) := ho.sublist (List.Sublist.filter _ List.filter_sublist)
  have nb : ∀ x, x ∈ s → x ≠ b := fun x hx e => hn (e ▸ hx)
  show Ok (if (!decide (s.filter (fun x => decide (x < b)) = [])) = true then ((maxL (s.filter (fun x => decide (x < b)))).bind fun x20 => idx? (rest here b) x20).bind fun x21 => some (x21 + 1) else some 0) _
  refine Ok.ite (fun e => ?_) fun e => .pure ⟨Int.le_refl _, by omega, fun x hx => absurd hx (by simp), fun x hx hxs => ?_⟩
  · have e : s.filter (fun x => decide (x < b)) ≠ [] := by simpa using e
    obtain ⟨m, hm⟩ : ∃ m, maxL (s.filter (fun x => decide (x < b))) = some m := by
      cases q : s.filter (fun x => decide (x < b)) with
      | nil => exact absurd q e
      | cons a as => exact ⟨_, rfl⟩
    obtain ⟨ms, mtop⟩ := maxL_spec hm
    have mm := List.mem_filter.mp ms
    have hlt : m < b := by simpa using mm.2
    have hin : m ∈ rest here b := List.mem_filter.mpr ⟨hs m mm.1, by simp; omega⟩
    simp only [hm, Option.bind_some, idx_of hin]
    have hi := List.idxOf_lt_length_of_mem hin
    refine .pure ?_
    generalize hk : (rest here b).idxOf m = k at hi
    have gm : (rest here b)[k] = m := by
      subst hk; exact List.getElem_idxOf hi
    have sp : rest here b = (rest here b).take k ++ m :: (rest here b).drop (k + 1) := by
      conv => lhs; rw [← List.take_append_drop k (rest here b), List.drop_eq_getElem_cons hi, gm]
    have tk : (rest here b).take (k + 1) = (rest here b).take k ++ [m] := by
      rw [List.take_add_one, List.getElem?_eq_getElem hi, gm]; rfl
    rw [sp, List.filter_append, List.filter_cons_of_pos (by simpa using mm.1)] at h1
    obtain ⟨a1, a2, a3⟩ := List.pairwise_append.mp h1
    obtain ⟨a4, a5⟩ := List.pairwise_cons.mp a2
    have tn : ((k : Int) + 1).toNat = k + 1 := by omega
    refine ⟨by omega, by omega, fun x hx hxs => ?_, fun x hx hxs => ?_⟩
    · rw [tn, tk] at hx
      rcases List.mem_append.mp hx with hx | hx
      · have := a3 x (List.mem_filter.mpr ⟨hx, by simpa using hxs⟩) m List.mem_cons_self
        omega
      · rw [List.mem_singleton.mp hx]; exact hlt
    · rw [tn] at hx
      have h2 := a4 x (List.mem_filter.mpr ⟨hx, by simpa using hxs⟩)
      have h3 := nb x hxs
      by_cases c : x < b
      · have := mtop x (List.mem_filter.mpr ⟨hxs, by simpa using c⟩)
        omega
      · omega
  · have e : s.filter (fun x => decide (x < b)) = [] := by simpa using e
    have h3 := nb x hxs
    by_cases c : x < b
    · have := (List.mem_filter (p := fun x => decide (x < b))).mpr ⟨hxs, by simpa using c⟩
      rw [e] at this
      cases this
    · omega
theorem put_full {here : List Int} {b i : Int} (hl : here.length ≤ 10000) (hi : 0 ≤ i) : put_at here b i = some (put here b i) := by
  unfold put_at
  simp only [Option.bind_some]
  rw [lc_filter (c' := fun x => !decide (x = b)) (by omega) fun _ _ => rfl]
  simp only [Option.bind_some]
  have h2 : (here.filter (fun x => !decide (x = b))).length ≤ here.length := List.length_filter_le _ _
  rw [cut_to _ hi, cut_from _ hi]
  show ((cat? ((rest here b).take i.toNat) [b]).bind fun x19 => cat? x19 ((rest here b).drop i.toNat)) = some (put here b i)
  have h3 : (rest here b).length ≤ here.length := h2
  have l1 : ((rest here b).take i.toNat).length ≤ (rest here b).length := by rw [List.length_take]; omega
  have l2 : ((rest here b).drop i.toNat).length ≤ (rest here b).length := by rw [List.length_drop]; omega
  simp only [cat_ok (show ((rest here b).take i.toNat).length + [b].length ≤ 100000 by simp only [List.length_singleton]; omega), Option.bind_some]
  rw [cat_ok (by rw [List.length_append, List.length_singleton]; omega)]
  rfl
theorem takings_full {o w n : List Int} (h : Row o w n) (hc : NoClash o n) : ∃ l f, staying (free o n) w = some l ∧ Best (free o n) w l ∧ takings o w n = some (some f) ∧ f.map (·.1) = ((rng 0 o.length).filter fun b => !decide (b ∈ l)) ∧ Valid n o f ∧ play o f = rng 0 o.length := by
  have hn := h.nl
  have hl := h.le
  have hB := h.bks
  have hb := hB.sub (free_sub o n)
  obtain ⟨l, e1, q1⟩ := staying_ok hb
  refine ⟨l, ?_⟩
  have key : Ok (takings o w n) fun r => ∃ f, r = some f ∧ f.map (·.1) = ((rng 0 o.length).filter fun b => !decide (b ∈ l)) ∧ Valid n o f ∧ play o f = rng 0 o.length := by
    unfold takings
    simp only [Option.bind_some, check_ok h]
    refine Ok.bind (Ok.bind (clash_ok h.nb) (B := fun b => b = false) ?_) ?_
    · rintro r (⟨rfl, _⟩ | ⟨a, b, rfl, h1, h2, h3, h4⟩)
      · exact .pure rfl
      · have := hc a h1 b h2 h3
        rw [h4] at this
        cases this
    · rintro r rfl
      simp only [free_ok h.nb (show o.length ≤ 100000 by omega) (show n.length ≤ 100000 by omega), Option.bind_some, Bool.false_eq_true, if_false, e1, rng_ok (a := (o.length : Int)) (by omega) (by omega)]
      have hlo : ∀ x ∈ l, x ∈ o := fun x hx => (free_sub o n).subset (q1.sub.subset hx)
      have hls := q1.sub.trans (free_sub o n)
      have hll : l.length ≤ 24 := by
        have := hls.length_le
        omega
      have hnl : ∀ b ∈ n, b ∈ l := best_nailed hB hc h.nb q1
      have s0 : Sett l o := by
        have : (o.filter fun x => decide (x ∈ l)).Perm l := by
          rw [List.perm_ext_iff_of_nodup (hB.nd.filter _) (hB.nd.sublist hls)]
          intro x
          rw [List.mem_filter]
          exact ⟨fun h => by simpa using h.2, fun h => ⟨hlo x h, by simpa using h⟩⟩
        have e : o.filter (fun x => decide (x ∈ l)) = l := by
          have s1 : (l.filter fun x => decide (x ∈ l)) = l := List.filter_eq_self.mpr fun x hx => by simpa using hx
          have s2 : l.Sublist (o.filter fun x => decide (x ∈ l)) := by
            have := hls.filter (fun x => decide (x ∈ l))
            rwa [s1] at this
          exact (s2.eq_of_length this.length_eq.symm).symm
        unfold Sett
        rw [e]
        exact q1.inc
      refine Ok.bind (Ok.forS (fun k (s : List Int × List Int × List (Int × Int)) => s.2.1.Perm o ∧ (∀ x ∈ s.1, x ∈ o) ∧ (∀ x : Int, x ∈ s.1 ↔ x ∈ l ∨ 0 ≤ x ∧ x < k) ∧ s.1.length ≤ 24 + k ∧ s.2.2.length ≤ k ∧ s.2.2.map (·.1) = ((rng 0 o.length).take k).filter (fun b => !decide (b ∈ l)) ∧
          Sett s.1 s.2.1 ∧ Valid n o s.2.2 ∧ play o s.2.2 = s.2.1) ⟨.refl _, hlo, fun x => ⟨.inl, fun h => h.elim id fun h => by omega⟩, by simp only; omega, by simp, by simp, s0, trivial, rfl⟩ ?_) ?_
      · rintro k ⟨s, here, f⟩ b eb ⟨p1, p2, p3, p4, p5, p6, p7, p8, p9⟩
        simp only at p1 p2 p3 p4 p5 p6 p7 p8 p9
        obtain ⟨b1, b2⟩ := rng_at eb
        simp only [Int.zero_add] at b1 b2
        have hbo : b ∈ o := h.mem.mpr (by omega)
        have lenk : k < 24 := by omega
        have hl2 := p1.length_eq
        have hnd : here.Nodup := p1.nodup_iff.mpr hB.nd
        have tk : (rng 0 (o.length : Int)).take (k + 1) = (rng 0 (o.length : Int)).take k ++ [b] := by
          rw [List.take_add_one, eb]; rfl
        rw [tk, List.filter_append]
        have hbl : b ∈ s ↔ b ∈ l := by rw [p3]; exact ⟨fun h => h.elim id fun h => by omega, .inl⟩
        by_cases c : b ∈ s
        · have c2 := hbl.mp c
          simp only [c, decide_true, Bool.not_true, Bool.false_eq_true, if_false, Option.bind_some]
          refine .pure ⟨p1, p2, fun x => ?_, by simp only; omega, by simp only; omega, ?_, p7, p8, p9⟩
          · simp only
            rw [p3]
            by_cases cx : x = b
            · subst cx; simp [c2]
            · by_cases cl : x ∈ l
              · simp [cl]
              · simp only [cl, false_or]; omega
          · simp [p6, c2]
        · have c2 : b ∉ l := fun q => c (hbl.mpr q)
          simp only [c, decide_false, Bool.not_false, if_true]
          refine Ok.bind (A := fun s' : List Int × List Int × List (Int × Int) => ∃ i, s' = (s ++ [b], put here b i, f ++ [(b, i)]) ∧ Place here b s i) ?_ ?_
          · refine Ok.bind (place_full (by omega) (by omega) hnd (p1.mem_iff.mpr hbo) (fun x hx => p1.mem_iff.mpr (p2 x hx)) c p7) fun i hi => ?_
            simp only [PU.app_ok (show f.length < 100000 by omega), Option.bind_some, put_full (show here.length ≤ 10000 by omega) hi.lo, cat_ok (show s.length + [b].length ≤ 100000 by simp only [List.length_singleton]; omega)]
            exact .pure ⟨i, rfl, hi⟩
          · rintro _ ⟨i, rfl, hp⟩
            refine .pure ⟨(put_perm hnd (p1.mem_iff.mpr hbo)).trans p1, fun x hx => ?_, fun x => ?_, ?_, ?_, ?_, sett_put p7 c hp, ?_, ?_⟩
            · rcases List.mem_append.mp hx with hx | hx
              · exact p2 x hx
              · rw [List.mem_singleton.mp hx]; exact hbo
            · simp only
              rw [List.mem_append, List.mem_singleton, p3 x]
              by_cases cl : x ∈ l
              · simp [cl]
              · simp only [cl, false_or]; omega
            · simp only [List.length_append, List.length_singleton]; omega
            · simp only [List.length_append, List.length_singleton]; omega
            · simp [p6, c2]
            · refine valid_app p8 ?_ (fun hbn => c2 (hnl b hbn)) hp.lo ?_
              · rw [p9]; exact p1.mem_iff.mpr hbo
              · rw [p9]; exact hp.hi
            · simp only
              rw [play_app, p9]
      · rintro ⟨s, here, f⟩ ⟨p1, p2, p3, p4, p5, p6, p7, p8, p9⟩
        simp only at p1 p2 p3 p6 p7 p8 p9
        refine .pure ⟨f, rfl, by rw [p6, List.take_length], p8, ?_⟩
        rw [p9]
        have e : here.filter (fun x => decide (x ∈ s)) = here := List.filter_eq_self.mpr fun x hx => by
          have hx := h.mem.mp (p1.mem_iff.mp hx)
          rw [PU.rng_len] at p3
          have := (p3 x).mpr (.inr ⟨hx.1, by omega⟩)
          simpa using this
        unfold Sett at p7
        rw [e] at p7
        exact rising_eq p7 (rng_rise _ _) fun x => (p1.mem_iff.trans h.pm.mem_iff)
  obtain ⟨r, e2, f, rfl, h1, h2, h3⟩ := key
  exact ⟨f, e1, q1, e2, h1, h2, h3⟩
end Fw

set_option Elab.async false
set_option linter.all false
/-! M8: owed, course, outcome, judged. -/
namespace PU
open PySem L2
theorem enumL_snd {α : Type} (xs : List α) : (enumL xs).map (·.2) = xs := by
  unfold enumL
  rw [List.map_snd_zip]
  simp
theorem Valid.mono {n m : List Int} (hs : ∀ b ∈ m, b ∈ n) : ∀ {f : List (Int × Int)} {o : List Int}, Valid n o f → Valid m o f
  | [], _, _ => trivial
  | _ :: _, _, ⟨a, b, c, d, e⟩ => ⟨a, fun h => b (hs _ h), c, d, e.mono hs⟩
theorem noclash_nil (o : List Int) : NoClash o [] := fun _ h => absurd h (by simp)
theorem noclash_one (o : List Int) (b : Int) : NoClash o [b] := fun x hx y hy hlt => by
  rw [List.mem_singleton.mp hx, List.mem_singleton.mp hy] at hlt
  omega
theorem free_nil (o : List Int) : free o [] = o := List.filter_eq_self.mpr fun _ _ => rfl
theorem Best.uniq {o w l l' : List Int} (h : Best o w l) (h' : Best o w l') : sumW w l = sumW w l' := by
  have := h.top l' h'.sub h'.inc
  have := h'.top l h.sub h.inc
  omega
theorem Row.nail {o w n n' : List Int} (h : Row o w n) (h1 : n'.Pairwise (· < ·)) (h2 : ∀ b ∈ n', b ∈ o) : Row o w n' := ⟨h.pm, h.ne, h.le, h.wl, h.lo, h.hi, h1, h2⟩
theorem Row.nil {o w n : List Int} (h : Row o w n) : Row o w [] := h.nail .nil fun _ h => absurd h (by simp)
theorem Row.one {o w n : List Int} (h : Row o w n) {b : Int} (hb : b ∈ o) : Row o w [b] := h.nail (List.pairwise_singleton _ _) fun x hx => by rw [List.mem_singleton.mp hx]; exact hb
/-- all the books weigh what the weights sum to -/
theorem sum_rng {w : List Int} {k : Nat} (h : k ≤ w.length) : sumW w (rng 0 (k : Int)) = (w.take k).sum := by
  induction k with
  | zero => rfl
  | succ k ih =>
    rw [show ((k + 1 : Nat) : Int) = (k : Int) + 1 by omega, rng_succ, sumW_append, sumW_cons, sumW_nil, ih (by omega), take_at (by omega), List.sum_append]
    have : W w (k : Int) = ob w k := by unfold W ob; rw [Int.toNat_natCast]
    rw [this]
    simp
theorem split_sum {w l o : List Int} (hp : o.Perm (rng 0 o.length)) (hw : w.length = o.length) (hl : l.Sublist o) (hd : o.Nodup) : sumW w ((rng 0 o.length).filter fun b => !decide (b ∈ l)) = w.sum - sumW w l := by
  have h1 : sumW w (rng 0 o.length) = w.sum := by
    rw [sum_rng (by omega), List.take_of_length_le (by omega)]
  have h2 : ((rng 0 (o.length : Int)).filter (fun b => decide (b ∈ l)) ++ (rng 0 (o.length : Int)).filter fun b => !decide (b ∈ l)).Perm (rng 0 o.length) := List.filter_append_perm _ _
  have h3 : ((rng 0 (o.length : Int)).filter (fun b => decide (b ∈ l))).Perm l := by
    rw [List.perm_ext_iff_of_nodup ((rng_nodup _ _).filter _) (hd.sublist hl)]
    intro x
    rw [List.mem_filter]
    refine ⟨fun h => by simpa using h.2, fun h => ⟨hp.mem_iff.mp (hl.subset h), by simpa using h⟩⟩
  have h4 := sumW_perm (w := w) h2
  rw [sumW_append, sumW_perm h3] at h4
  omega
end PU
namespace Fw
open PySem L2 PU
theorem weight_ok {w l : List Int} (h : ∀ b ∈ l, 0 ≤ b ∧ b < w.length) (hl : l.length ≤ 100000) : weight_of w l = some (sumW w l) := by
  unfold weight_of
  simp only [Option.bind_some]
  rw [lc_map (f' := W w) hl fun b hb => atI_W (h b hb).1 (h b hb).2]
  rfl
theorem owed_ok {o w n : List Int} (h : Row o w n) (hc : NoClash o n) : ∃ l, staying (free o n) w = some l ∧ Best (free o n) w l ∧ owed_by o w n = some (some (w.sum - sumW w l)) := by
  have hl := h.le
  have hn := h.nl
  have hB := h.bks
  have hb := hB.sub (free_sub o n)
  obtain ⟨l, e1, q1⟩ := staying_ok hb
  refine ⟨l, e1, q1, ?_⟩
  obtain ⟨r, e2, hr⟩ := clash_ok (o := o) h.nb
  have : r = none := by
    rcases hr with ⟨rfl, _⟩ | ⟨a, b, rfl, h1, h2, h3, h4⟩
    · rfl
    · have := hc a h1 b h2 h3
      rw [h4] at this
      cases this
  subst this
  unfold owed_by
  have ll := (q1.sub.trans (free_sub o n)).length_le
  have w1 := weight_ok (w := w) (l := l) (fun b hb' => hB.rg b ((free_sub o n).subset (q1.sub.subset hb'))) (by omega)
  simp only [Option.bind_some, e2, Option.isNone_none, Bool.not_true, Bool.false_eq_true, if_false, free_ok h.nb (show o.length ≤ 100000 by omega) (show n.length ≤ 100000 by omega), e1, w1]
theorem owed_clash {o w n : List Int} (h : Row o w n) {a b : Int} (ha : a ∈ n) (hb : b ∈ n) (hlt : a < b) (hs : sr o a b = false) : owed_by o w n = some none := by
  obtain ⟨r, e2, hr⟩ := clash_ok (o := o) h.nb
  rcases hr with ⟨rfl, hc⟩ | ⟨a, b, rfl, h1, h2, h3, h4⟩
  · have := hc a ha b hb hlt
    rw [hs] at this
    cases this
  · unfold owed_by
    simp only [Option.bind_some, e2, Option.isNone_some, Bool.not_false, if_true]
theorem course_ok {o n : List Int} {f : List (Int × Int)} (hd : o.Nodup) (hl : o.length ≤ 10000) (hv : Valid n o f) : course o n f = some (play o f, -1) := by
  unfold course
  simp only [Option.bind_some]
  have key : ∀ (L : List (Int × (Int × Int))) (o : List Int), o.Nodup → o.length ≤ 10000 → Valid n o (L.map (·.2)) →
      forB (β := List Int × Int) (fun s1 a3 => (if (!decide (a3.snd.fst ∈ s1)) = true then some true else if decide (a3.snd.fst ∈ n) = true then some true else (if decide (0 ≤ a3.snd.snd) = true then some (decide (a3.snd.snd < (s1.length : Int))) else some false).bind fun x12 => some !x12).bind fun b15 =>
        if b15 = true then some (Rr.rt (s1, a3.fst)) else (put_at s1 a3.snd.fst a3.snd.snd).bind fun v_order_21 => some (Rr.nx v_order_21)) o L = some (.nx (play o (L.map (·.2)))) := by
    intro L
    induction L with
    | nil => intro o _ _ _; rfl
    | cons q L ih =>
      intro o hd hl ⟨a, b, c, d, e⟩
      show Option.bind _ _ = _
      have pp := put_perm (i := q.2.2) hd a
      simp only [a, b, c, d, decide_true, decide_false, Bool.not_true, Bool.not_false, Bool.false_eq_true, if_true, if_false, Option.bind_some, put_full hl c]
      rw [ih _ (pp.nodup_iff.mpr hd) (by rw [pp.length_eq]; exact hl) e]
      rfl
  rw [key (enumL f) o hd hl (by rw [enumL_snd]; exact hv), enumL_snd]
  rfl
theorem outcome_ok {o w n : List Int} {f : List (Int × Int)} (h : Row o w n) (hc : NoClash o n) (hv : Valid n o f) (hp : play o f = rng 0 o.length) (hf : ∀ q ∈ f, q.1 ∈ o) (hfl : f.length ≤ 1000) :
    ∃ l, staying (free o n) w = some l ∧ Best (free o n) w l ∧ outcome o w n f = some (-1, sumW w (f.map (·.1)) - (w.sum - sumW w l)) := by
  obtain ⟨l, e1, q1, e2⟩ := owed_ok h hc
  refine ⟨l, e1, q1, ?_⟩
  have hl := h.le
  have hB := h.bks
  unfold outcome
  simp only [Option.bind_some, course_ok hB.nd (show o.length ≤ 10000 by omega) hv, hp]
  have lr : (rng 0 (o.length : Int)).length = o.length := by rw [PU.rng_len]; omega
  have e5 : sort? (rng 0 (o.length : Int)) = some (rng 0 o.length) := by
    unfold sort?
    rw [if_pos (by omega)]
    congr 1
    exact sorted_eq (isort_perm _) (isort_sorted _) ((rng_rise _ _).imp fun h => by omega)
  have e6 : lc? (fun _ => some true) (fun a18 : Int × Int => some a18.1) f = some (f.map (·.1)) := lc_map (by omega) fun _ _ => rfl
  have e7 := weight_ok (w := w) (l := f.map (·.1)) (fun b hb => by
    obtain ⟨q, hq, rfl⟩ := List.mem_map.mp hb
    exact hB.rg _ (hf q hq)) (by rw [List.length_map]; omega)
  have d1 : decide ((0 : Int) ≤ -1) = false := by decide
  simp only [d1, e5, e6, e7, e2, decide_true, Bool.not_true, Bool.false_eq_true, if_false, Option.bind_some]
theorem plan_ok {f : List (Int × Int)} (h : f.length ≤ 60) : check_plan f = some () := by
  unfold check_plan is_whole
  have e : forS (fun (s7 : Unit) (a8 : Int × Int) => (some () : Option Unit)) () f = some () := by
    induction f with
    | nil => rfl
    | cons q f ih => exact ih (by simp at h; omega)
  have c : ¬ (60 : Int) < f.length := by omega
  simp [Option.bind_some, c]
  rw [e]
  rfl
theorem judged_ok {o w n : List Int} {f : List (Int × Int)} (h : Row o w n) (hfl : f.length ≤ 60) {x : Int} (e : outcome o w n f = some (-1, x)) : judged o w n f = some (if 0 < x then .dear x else .thrifty) := by
  unfold judged mk_Dear
  have d1 : decide ((0 : Int) ≤ -1) = false := by decide
  simp only [Option.bind_some, check_ok h, plan_ok hfl, e, d1, Bool.false_eq_true, if_false]
  by_cases c : 0 < x <;> simp [c]
end Fw

set_option Elab.async false
set_option linter.all false
/-! M9: kin of an order: turned about, one more, heavier, falling, nailed; the round. -/
namespace PU
open PySem L2
/-! ### turned about and numbered the other way -/
def mir (m x : Int) : Int := m - 1 - x
def mirO (m : Int) (o : List Int) : List Int := o.reverse.map (mir m)
theorem mirO_mirO (m : Int) (o : List Int) : mirO m (mirO m o) = o := by
  unfold mirO
  rw [← List.map_reverse, List.reverse_reverse, List.map_map]
  have : mir m ∘ mir m = id := by funext x; simp [mir]; omega
  rw [this, List.map_id]
theorem mirO_sub {m : Int} {l o : List Int} (h : l.Sublist o) : (mirO m l).Sublist (mirO m o) := (h.reverse).map _
theorem mirO_inc {m : Int} {l : List Int} (h : l.Pairwise (· < ·)) : (mirO m l).Pairwise (· < ·) := by
  unfold mirO
  rw [List.pairwise_map, List.pairwise_reverse]
  exact h.imp fun h => by unfold mir; omega
theorem mir_W {w : List Int} {b : Int} (h : 0 ≤ b) (h' : b < w.length) : W w.reverse (mir w.length b) = W w b := by
  unfold W mir
  rw [List.getElem?_reverse (by omega), show w.length - 1 - ((w.length : Int) - 1 - b).toNat = b.toNat by omega]
theorem mir_sum {w l : List Int} (h : ∀ b ∈ l, 0 ≤ b ∧ b < w.length) : sumW w.reverse (mirO w.length l) = sumW w l := by
  unfold mirO sumW
  rw [List.map_map]
  have e : l.reverse.map (W w.reverse ∘ mir w.length) = l.reverse.map (W w) := List.map_congr_left fun b hb => mir_W (h b (List.mem_reverse.mp hb)).1 (h b (List.mem_reverse.mp hb)).2
  rw [e, List.map_reverse, List.sum_reverse]
theorem mir_row {o w n : List Int} (h : Row o w n) : Row (mirO o.length o) w.reverse [] := by
  have le : (mirO o.length o).length = o.length := by unfold mirO; simp
  refine ⟨?_, by rw [le]; exact h.ne, by rw [le]; exact h.le, by rw [le, List.length_reverse]; exact h.wl, fun x hx => h.lo x (List.mem_reverse.mp hx), fun x hx => h.hi x (List.mem_reverse.mp hx), .nil, fun _ h => absurd h (by simp)⟩
  rw [le]
  have nd : (mirO o.length o).Nodup := by
    unfold mirO
    rw [List.Nodup, List.pairwise_map]
    exact (List.pairwise_reverse.mpr (h.bks.nd.imp fun h => Ne.symm h)).imp fun h e => h (by unfold mir at e; omega)
  rw [List.perm_ext_iff_of_nodup nd (rng_nodup _ _)]
  intro x
  rw [mem_rng]
  unfold mirO
  rw [List.mem_map]
  refine ⟨fun ⟨b, h1, h2⟩ => ?_, fun hx => ⟨mir o.length x, ?_, ?_⟩⟩
  · have := h.mem.mp (List.mem_reverse.mp h1)
    unfold mir at h2; omega
  · exact List.mem_reverse.mpr (h.mem.mpr (by unfold mir; omega))
  · unfold mir; omega
theorem mir_best {o w n l l' : List Int} (h : Row o w n) (hb : Best o w l) (hb' : Best (mirO o.length o) w.reverse l') : sumW w.reverse l' = sumW w l := by
  have wl := h.wl
  have rg : ∀ l : List Int, l.Sublist o → ∀ b ∈ l, 0 ≤ b ∧ b < w.length := fun l hl b hx => h.bks.rg b (hl.subset hx)
  have a1 := hb'.top (mirO o.length l) (mirO_sub hb.sub) (mirO_inc hb.inc)
  have s2 : (mirO o.length l').Sublist o := by
    have := mirO_sub (m := o.length) hb'.sub
    rwa [mirO_mirO] at this
  have a2 := hb.top (mirO o.length l') s2 (mirO_inc hb'.inc)
  have e1 := mir_sum (rg l hb.sub)
  have e2 := mir_sum (rg _ s2)
  rw [show ((w.length : Nat) : Int) = (o.length : Int) by omega] at e1 e2
  rw [mirO_mirO] at e2
  omega
/-! ### a greatest book more at the end -/
theorem W_app {w : List Int} {x b : Int} (h' : b.toNat < w.length) : W (w ++ [x]) b = W w b := by
  unfold W; rw [List.getElem?_append_left h']
theorem W_new {w : List Int} {x : Int} : W (w ++ [x]) (w.length : Int) = x := by
  unfold W; rw [Int.toNat_natCast, List.getElem?_append_right (Nat.le_refl _)]; simp
theorem sumW_congr {w w' l : List Int} (h : ∀ b ∈ l, W w b = W w' b) : sumW w l = sumW w' l := by
  unfold sumW; rw [List.map_congr_left h]
theorem more_row {o w n : List Int} (h : Row o w n) (h23 : o.length ≤ 23) {x : Int} (h1 : 1 ≤ x) (h9 : x ≤ 9) : Row (o ++ [(o.length : Int)]) (w ++ [x]) [] := by
  have wl := h.wl
  refine ⟨?_, by simp, by simp; omega, by simp; omega, fun y hy => ?_, fun y hy => ?_, .nil, fun _ h => absurd h (by simp)⟩
  · rw [List.length_append, List.length_singleton, show ((o.length + 1 : Nat) : Int) = (o.length : Int) + 1 by omega, rng_succ]
    exact h.pm.append_right _
  · rcases List.mem_append.mp hy with hy | hy
    · exact h.lo y hy
    · rw [List.mem_singleton.mp hy]; exact h1
  · rcases List.mem_append.mp hy with hy | hy
    · exact h.hi y hy
    · rw [List.mem_singleton.mp hy]; exact h9
theorem more_best {o w n l l' : List Int} {x : Int} (h : Row o w n) (h1 : 1 ≤ x) (hb : Best o w l) (hb' : Best (o ++ [(o.length : Int)]) (w ++ [x]) l') : sumW (w ++ [x]) l' = sumW w l + x := by
  have wl := h.wl
  have old : ∀ l : List Int, l.Sublist o → sumW (w ++ [x]) l = sumW w l := fun l hl => sumW_congr fun b hx => W_app (by have := h.bks.rg b (hl.subset hx); omega)
  have nw : W (w ++ [x]) (o.length : Int) = x := by rw [← wl]; exact W_new
  have a1 := hb'.top (l ++ [(o.length : Int)]) (hb.sub.append (List.Sublist.refl _)) (List.pairwise_append.mpr ⟨hb.inc, List.pairwise_singleton _ _, fun y hy z hz => by
    rw [List.mem_singleton.mp hz]
    exact (h.mem.mp (hb.sub.subset hy)).2⟩)
  rw [sumW_append, sumW_cons, sumW_nil, nw, old l hb.sub] at a1
  rcases sub_concat hb'.sub with hs | ⟨l2, e, hs⟩
  · have := hb.top l' hs hb'.inc
    rw [← old l' hs] at this
    omega
  · subst e
    have := hb.top l2 hs (List.pairwise_append.mp hb'.inc).1
    rw [sumW_append, sumW_cons, sumW_nil, nw, old l2 hs] at a1 ⊢
    omega
/-! ### a book heavier -/
theorem W_set {w : List Int} {b c : Int} (hb : 0 ≤ b) (hb' : b < w.length) (hc : 0 ≤ c) : W (w.set b.toNat (W w b + 1)) c = W w c + if c = b then 1 else 0 := by
  unfold W
  rw [List.getElem?_set]
  by_cases e : c = b
  · subst e
    rw [if_pos rfl, if_pos (by omega), if_pos rfl]
    rfl
  · rw [if_neg (by omega), if_neg e]
    omega
theorem sum_set {w : List Int} {b : Int} : ∀ {l : List Int}, 0 ≤ b → b < w.length → l.Nodup → (∀ c ∈ l, 0 ≤ c) → sumW (w.set b.toNat (W w b + 1)) l = sumW w l + if b ∈ l then 1 else 0
  | [], _, _, _, _ => rfl
  | c :: l, h1, h2, h3, h4 => by
    rw [sumW_cons, sumW_cons, W_set h1 h2 (h4 c List.mem_cons_self), sum_set h1 h2 (List.nodup_cons.mp h3).2 fun d hd => h4 d (List.mem_cons_of_mem _ hd)]
    have h5 := (List.nodup_cons.mp h3).1
    by_cases e : c = b
    · subst e
      simp [h5]
      omega
    · have e' : ¬ b = c := fun q => e q.symm
      by_cases q : b ∈ l <;> simp [e, e', q] <;> omega
theorem set_sum {w : List Int} {b : Int} (h : 0 ≤ b) (h' : b < w.length) : (w.set b.toNat (W w b + 1)).sum = w.sum + 1 := by
  have e1 := sum_rng (w := w) (k := w.length) (Nat.le_refl _)
  have e2 := sum_rng (w := w.set b.toNat (W w b + 1)) (k := w.length) (by simp)
  rw [List.take_length] at e1
  rw [List.take_of_length_le (by simp)] at e2
  rw [← e1, ← e2, sum_set h h' (rng_nodup _ _) fun c hc => (mem_rng.mp hc).1, if_pos (mem_rng.mpr ⟨h, h'⟩)]
theorem heavy_row {o w n : List Int} (h : Row o w n) {b : Int} (hb : b ∈ o) (h9 : W w b < 9) : Row o (w.set b.toNat (W w b + 1)) [] := by
  have p := h.bks.pos hb
  refine ⟨h.pm, h.ne, h.le, by simp [h.wl], fun y hy => ?_, fun y hy => ?_, .nil, fun _ h => absurd h (by simp)⟩
  · rcases List.mem_or_eq_of_mem_set hy with hy | hy
    · exact h.lo y hy
    · omega
  · rcases List.mem_or_eq_of_mem_set hy with hy | hy
    · exact h.hi y hy
    · omega
theorem heavy_best {o w n l l' : List Int} (h : Row o w n) {b : Int} (hb : b ∈ o) (h1 : Best o w l) (h2 : Best o (w.set b.toNat (W w b + 1)) l') : sumW w l ≤ sumW (w.set b.toNat (W w b + 1)) l' ∧ sumW (w.set b.toNat (W w b + 1)) l' ≤ sumW w l + 1 := by
  have rg := h.bks.rg b hb
  have s : ∀ l : List Int, l.Sublist o → sumW (w.set b.toNat (W w b + 1)) l = sumW w l + if b ∈ l then 1 else 0 := fun l hl => sum_set rg.1 rg.2 (h.bks.nd.sublist hl) fun c hc => (h.bks.rg c (hl.subset hc)).1
  have a1 := h2.top l h1.sub h1.inc
  have a2 := h1.top l' h2.sub h2.inc
  have e1 := s l h1.sub
  have e2 := s l' h2.sub
  constructor
  · split at e1 <;> omega
  · split at e2 <;> omega
/-! ### all falling -/
theorem fall_best {w l : List Int} {m : Int} {k : Nat} (hk : w.length = k) (h1 : ∀ x ∈ w, 1 ≤ x) (hm : maxL w = some m) (hb : Best (rng 0 (k : Int)).reverse w l) : sumW w l = m := by
  obtain ⟨mm, mt⟩ := maxL_spec hm
  have up : sumW w l ≤ m := by
    have d : (rng 0 (k : Int)).reverse.Pairwise (· > ·) := List.pairwise_reverse.mpr ((rng_rise _ _).imp fun h => h)
    have d2 := d.sublist hb.sub
    have d3 := hb.inc
    have rgl : ∀ b ∈ l, 0 ≤ b ∧ b < w.length := fun b hx => by
      have := mem_rng.mp (List.mem_reverse.mp (hb.sub.subset hx))
      omega
    cases l with
    | nil =>
      rw [sumW_nil]
      have := h1 m mm
      omega
    | cons a l =>
      cases l with
      | nil =>
        rw [sumW_cons, sumW_nil]
        have := rgl a (by simp)
        have := mt _ (W_mem this.1 this.2)
        omega
      | cons c l =>
        have q1 := (List.pairwise_cons.mp d2).1 c List.mem_cons_self
        have q2 := (List.pairwise_cons.mp d3).1 c List.mem_cons_self
        omega
  obtain ⟨i, hi⟩ := List.mem_iff_getElem?.mp mm
  have hil : i < w.length := (List.getElem?_eq_some_iff.mp hi).1
  have lo := hb.top [(i : Int)] (List.singleton_sublist.mpr (List.mem_reverse.mpr (mem_rng.mpr (by omega)))) (List.pairwise_singleton _ _)
  have e : W w (i : Int) = m := by unfold W; rw [Int.toNat_natCast, hi]; rfl
  rw [sumW_cons, sumW_nil, e] at lo
  omega
theorem fall_row {o w n : List Int} (h : Row o w n) : Row (rng 0 (o.length : Int)).reverse w [] := by
  have le : (rng 0 (o.length : Int)).reverse.length = o.length := by rw [List.length_reverse, rng0_len]
  refine ⟨by rw [le]; exact List.reverse_perm _, by rw [le]; exact h.ne, by rw [le]; exact h.le, by rw [le]; exact h.wl, h.lo, h.hi, .nil, fun _ h => absurd h (by simp)⟩
/-! ### nailed -/
theorem nail_le {o w n l l' : List Int} (h : Best o w l) (h' : Best (free o n) w l') : sumW w l' ≤ sumW w l := h.top l' (h'.sub.trans (free_sub o n)) h'.inc
theorem nail_eq {o w n l l' : List Int} (hd : o.Nodup) (h : Best o w l) (hn : ∀ b ∈ n, b ∈ l) (h' : Best (free o n) w l') : sumW w l' = sumW w l := by
  have a := nail_le h h'
  have b := h'.top l (good_free hd h.sub h.inc hn) h.inc
  omega
theorem stay_noclash {o l : List Int} (hd : o.Nodup) (hs : l.Sublist o) (hi : l.Pairwise (· < ·)) : NoClash o l := fun a ha b hb _ => sr_inc hd hs hi ha hb
end PU

set_option Elab.async false
set_option linter.all false
/-! ML: what the laws' own helpers answer. -/
namespace PU
open PySem L2
theorem tall_list {o w : List Int} {t : List (Int × Int)} (ht : ∀ i, i < o.length → RowOk o w t i) : ∀ (n i : Nat), i < n → i < o.length → ∃ l : List Int, (l ++ [ob o i]).Sublist (o.take (i + 1)) ∧ (l ++ [ob o i]).Pairwise (· < ·) ∧ sumW w (l ++ [ob o i]) = th t i
  | 0, i, hn, _ => absurd hn (by omega)
  | n + 1, i, hn, hi => by
    obtain ⟨_, _, r⟩ := ht i hi
    rw [take_at hi]
    rcases r with ⟨_, r⟩ | ⟨j, hj, _, hlt, r⟩
    · refine ⟨[], ?_, List.pairwise_singleton _ _, ?_⟩
      · exact List.sublist_append_right _ _
      · rw [List.nil_append, sumW_cons, sumW_nil]; omega
    · obtain ⟨l, h1, h2, h3⟩ := tall_list ht n j (by omega) (by omega)
      refine ⟨l ++ [ob o j], ?_, ?_, ?_⟩
      · refine List.Sublist.append ?_ (List.Sublist.refl _)
        refine h1.trans ?_
        have : o.take (j + 1) = (o.take i).take (j + 1) := by rw [List.take_take, Nat.min_eq_left (by omega)]
        rw [this]
        exact List.take_sublist _ _
      · refine List.pairwise_append.mpr ⟨h2, List.pairwise_singleton _ _, fun x hx y hy => ?_⟩
        rw [List.mem_singleton.mp hy]
        rcases List.mem_append.mp hx with hx | hx
        · have := (List.pairwise_append.mp h2).2.2 x hx (ob o j) (by simp)
          omega
        · rw [List.mem_singleton.mp hx]; exact hlt
      · rw [sumW_append, h3, sumW_cons, sumW_nil]; omega
end PU
namespace Fw
open PySem L2 PU
theorem law_tall_ok {o w : List Int} (h : Bks o w) : Ok (_law_tall o w) fun m => ∃ l, Best o w l ∧ m = sumW w l := by
  obtain ⟨t, _, tl, ht⟩ := heights_ok h
  have hle := h.le
  unfold _law_tall
  simp only [Option.bind_some]
  refine Ok.bind (Ok.forS (fun k (F : List Int) => F = (t.map (·.1)).take k) rfl ?_) ?_
  · rintro i F ⟨q, b⟩ e hF
    subst hF
    obtain ⟨e1, e2⟩ := enumL_at e
    cases e1
    have hi : i < o.length := (List.getElem?_eq_some_iff.mp e2).1
    have hb : ob o i = b := ob_of e2
    have hbm : b ∈ o := List.mem_of_getElem? e2
    obtain ⟨r1, r2, r3⟩ := ht i hi
    rw [hb] at r2 r3
    have tk : (t.map (·.1)).take (i + 1) = (t.map (·.1)).take i ++ [th t i] := by
      rw [List.take_add_one, List.getElem?_map, th_at (by omega)]; rfl
    have lk : lc? (fun a13 : Int => (atI o a13).bind fun x16 => some (decide (x16 < b))) (fun x18 : Int => atI ((t.map (·.1)).take i) x18) (rng 0 (i : Int)) = some (((rng 0 (i : Int)).filter fun x => decide (ob o x.toNat < b)).map fun x => th t x.toNat) := by
      refine lc_eq (by rw [rng0_len]; omega) (fun x hx => ?_) fun x hx _ => ?_
      · have hx := mem_rng.mp hx
        rw [atI_int hx.1, ob_at (by omega)]
        rfl
      · have hx := mem_rng.mp hx
        rw [atI_int hx.1, List.getElem?_take, if_pos (by omega), List.getElem?_map, th_at (by omega)]
        rfl
    have ln : (((rng 0 (i : Int)).filter fun x => decide (ob o x.toNat < b)).map fun x => th t x.toNat).length ≤ i := by
      rw [List.length_map]
      have := List.length_filter_le (fun x : Int => decide (ob o x.toNat < b)) (rng 0 (i : Int))
      rw [rng0_len] at this
      exact this
    have mx : maxL ([0] ++ ((rng 0 (i : Int)).filter fun x => decide (ob o x.toNat < b)).map fun x => th t x.toNat) = some (th t i - W w b) := by
      refine maxL_eq ?_ fun y hy => ?_
      · rcases r3 with ⟨_, r⟩ | ⟨j, hj, _, hlt, r⟩
        · exact List.mem_append_left _ (by rw [r]; simp)
        · refine List.mem_append_right _ (List.mem_map.mpr ⟨(j : Int), List.mem_filter.mpr ⟨mem_rng.mpr (by omega), ?_⟩, ?_⟩)
          · simpa using hlt
          · rw [Int.toNat_natCast]; omega
      · have np : 0 ≤ th t i - W w b := by
          rcases r3 with ⟨_, r⟩ | ⟨j, hj, _, hlt, r⟩
          · omega
          · have := (ht j (by omega)).1; omega
        rcases List.mem_append.mp hy with hy | hy
        · rw [List.mem_singleton.mp hy]; exact np
        · obtain ⟨x, hx, rfl⟩ := List.mem_map.mp hy
          obtain ⟨x1, x2⟩ := List.mem_filter.mp hx
          have x1 := mem_rng.mp x1
          have := r2 x.toNat (by omega) (by simpa using x2)
          omega
    simp only [Int.ofNat_eq_natCast]
    simp only [h.w hbm, rng_ok (a := (i : Int)) (by omega) (by omega), lk, cat_ok (show [(0 : Int)].length + (((rng 0 (i : Int)).filter fun x => decide (ob o x.toNat < b)).map fun x => th t x.toNat).length ≤ 100000 by simp only [List.length_singleton]; omega), mx, Option.bind_some]
    rw [PU.app_ok (by rw [List.length_take]; omega)]
    refine .pure ?_
    rw [tk]
    congr 2
    omega
  · rintro F hF
    rw [enumL_len, List.take_of_length_le (by simp [tl])] at hF
    subst hF
    have ml : (t.map (·.1)).length = o.length := by simp [tl]
    simp only [cat_ok (show [(0 : Int)].length + (t.map (·.1)).length ≤ 100000 by simp only [List.length_singleton, ml]; omega), Option.bind_some]
    obtain ⟨m, hm⟩ : ∃ m, maxL ([0] ++ t.map (·.1)) = some m := ⟨_, rfl⟩
    obtain ⟨mm, mt⟩ := maxL_spec hm
    obtain ⟨l, _, hl⟩ := staying_ok h
    refine .eq hm ⟨l, hl, ?_⟩
    have up : sumW w l ≤ m := by
      have hs := hl.sub
      rw [show o = o.take o.length by simp] at hs
      rcases tall_top h ht o.length (Nat.le_refl _) l hl.inc hs with e | ⟨i, l2, h5, h6, h7⟩
      · subst e
        rw [sumW_nil]
        exact mt 0 (by simp)
      · have := mt (th t i) (List.mem_append_right _ (List.mem_map_of_mem (f := Prod.fst) (List.mem_of_getElem? (th_at (t := t) (i := i) (by omega)))))
        omega
    have lo : m ≤ sumW w l := by
      rcases List.mem_append.mp mm with mm | mm
      · rw [List.mem_singleton.mp mm]
        exact (h.sub hl.sub).sum_pos
      · obtain ⟨i, hi⟩ := List.mem_iff_getElem?.mp mm
        have il : i < t.length := by
          have := (List.getElem?_eq_some_iff.mp hi).1
          simpa using this
        rw [List.getElem?_map, th_at il] at hi
        have hi := Option.some.inj hi
        simp only at hi
        obtain ⟨l', h1, h2, h3⟩ := tall_list ht (i + 1) i (by omega) (by omega)
        have := hl.top _ (h1.trans (List.take_sublist _ _)) h2
        omega
    omega
theorem right_two_ok {o : List Int} {a b : Int} (ha : a ∈ o) (hb : b ∈ o) : _law_right_two o a b = some (sr o a b) := by
  have := sr_ok ha hb
  unfold stand_right at this
  unfold _law_right_two
  exact this
theorem law_free_ok {o n : List Int} (hn : ∀ b ∈ n, b ∈ o) (hl : o.length ≤ 100000) (hl' : n.length ≤ 100000) : _law_free o n = some (free o n) := by
  unfold _law_free
  simp only [Option.bind_some]
  refine lc_filter hl fun x hx => ?_
  rw [lc_map (f' := sr o x) hl' fun b hb => right_two_ok hx (hn b hb)]
  simp only [Option.bind_some]
  congr 1
  rw [List.all_map]
  rfl
theorem law_clash_ok {o n : List Int} (hn : ∀ b ∈ n, b ∈ o) (hl' : n.length ≤ 100000) : Ok (_law_clash o n) fun r => (r = false ∧ NoClash o n) ∨ (r = true ∧ ∃ a b, a ∈ n ∧ b ∈ n ∧ a < b ∧ sr o a b = false) := by
  unfold _law_clash
  simp only [Option.bind_some]
  refine Ok.bind (Ok.forB (fun k _ => ∀ i a, i < k → n[i]? = some a → ∀ b ∈ n, sr o a b = true) (fun r : Bool => r = true ∧ ∃ a b, a ∈ n ∧ b ∈ n ∧ a < b ∧ sr o a b = false) (fun i a h => by omega) ?_) ?_
  · intro i _ a ea hP
    have ham := List.mem_of_getElem? ea
    rw [lc_map (f' := sr o a) hl' fun b hb => right_two_ok (hn a ham) (hn b hb)]
    simp only [Option.bind_some]
    have e : (n.map (sr o a)).all id = n.all (sr o a) := by rw [List.all_map]; rfl
    rw [e]
    cases q : n.all (sr o a) with
    | true =>
      refine .pure (.inl ⟨(), rfl, fun i' a' hi he b hb => ?_⟩)
      by_cases c : i' = i
      · subst c
        rw [ea] at he
        cases he
        exact List.all_eq_true.mp q b hb
      · exact hP i' a' (by omega) he b hb
    | false =>
      refine .pure (.inr ⟨true, rfl, rfl, ?_⟩)
      obtain ⟨b, hb, hs⟩ : ∃ b ∈ n, sr o a b = false := by
        refine Classical.byContradiction fun hno => ?_
        have : n.all (sr o a) = true := List.all_eq_true.mpr fun b hb => by
          cases z : sr o a b with
          | true => rfl
          | false => exact absurd ⟨b, hb, z⟩ hno
        rw [q] at this
        cases this
      rcases Int.lt_trichotomy a b with c | c | c
      · exact ⟨a, b, ham, hb, c, hs⟩
      · subst c
        unfold sr at hs
        simp at hs
      · refine ⟨b, a, hb, ham, c, ?_⟩
        cases z : sr o b a with
        | false => rfl
        | true =>
          rw [sr_symm (hn b hb) z] at hs
          cases hs
  · rintro r (⟨y, rfl, hQ⟩ | ⟨y, rfl, hQ⟩)
    · refine .pure (.inl ⟨rfl, fun a ha b hb _ => ?_⟩)
      obtain ⟨i, hi⟩ := List.mem_iff_getElem?.mp ha
      exact hQ i a (List.getElem?_eq_some_iff.mp hi).1 hi b hb
    · exact .pure (.inr hQ)
theorem law_owed_ok {o w n : List Int} (h : Row o w n) : Ok (_law_owed o w n) fun r => (NoClash o n ∧ ∃ l, Best (free o n) w l ∧ r = w.sum - sumW w l) ∨ (r = -1 ∧ ∃ a b, a ∈ n ∧ b ∈ n ∧ a < b ∧ sr o a b = false) := by
  have hl := h.le
  have hn := h.nl
  unfold _law_owed
  simp only [Option.bind_some]
  refine Ok.bind (law_clash_ok h.nb (by omega)) ?_
  rintro r (⟨rfl, hc⟩ | ⟨rfl, hc⟩)
  · simp only [Bool.false_eq_true, if_false, law_free_ok h.nb (show o.length ≤ 100000 by omega) (show n.length ≤ 100000 by omega), Option.bind_some]
    refine Ok.bind (law_tall_ok (h.bks.sub (free_sub o n))) ?_
    rintro m ⟨l, hb, rfl⟩
    exact .pure (.inl ⟨hc, l, hb, rfl⟩)
  · exact .pure (.inr ⟨rfl, hc⟩)
end Fw

set_option Elab.async false
set_option linter.all false
/-! MO: plans done step by step, by the program and by the law. -/
namespace PU
open PySem L2
def badS (n o : List Int) (q : Int × Int) : Bool := !decide (q.1 ∈ o) || decide (q.1 ∈ n) || !(decide (0 ≤ q.2) && decide (q.2 < (o.length : Int)))
theorem bad_eq (n o : List Int) (q : Int × Int) : (if (!decide (q.1 ∈ o)) = true then some true else if decide (q.1 ∈ n) = true then some true else (if decide (0 ≤ q.2) = true then some (decide (q.2 < (o.length : Int))) else some false).bind fun x12 => some !x12) = some (badS n o q) := by
  unfold badS
  by_cases a : q.1 ∈ o <;> by_cases b : q.1 ∈ n <;> by_cases c : 0 ≤ q.2 <;> by_cases d : q.2 < (o.length : Int) <;> simp [a, b, c, d]
theorem bad_not {n o : List Int} {q : Int × Int} (h : badS n o q = false) : q.1 ∈ o ∧ q.1 ∉ n ∧ 0 ≤ q.2 ∧ q.2 < o.length := by
  unfold badS at h
  by_cases a : q.1 ∈ o <;> by_cases b : q.1 ∈ n <;> by_cases c : 0 ≤ q.2 <;> by_cases d : q.2 < (o.length : Int) <;> simp [a, b, c, d] at h ⊢
def runW (n : List Int) : List Int → List (Int × (Int × Int)) → Rr (List Int) (List Int × Int)
  | o, [] => .nx o
  | o, e :: L => if badS n o e.2 = true then .rt (o, e.1) else runW n (put o e.2.1 e.2.2) L
theorem put_filter {o n : List Int} {b i : Int} (hb : b ∉ n) : (put o b i).filter (fun x => decide (x ∈ n)) = o.filter fun x => decide (x ∈ n) := by
  have e : [b].filter (fun x => decide (x ∈ n)) = [] := by simp [hb]
  unfold put
  rw [List.filter_append, List.filter_append, e, List.append_nil, ← List.filter_append, List.take_append_drop]
  unfold rest
  rw [List.filter_filter]
  refine List.filter_congr fun x _ => ?_
  by_cases c : x = b
  · subst c; simp [hb]
  · simp [c]
theorem run_nx {n : List Int} : ∀ {L : List (Int × (Int × Int))} {o o' : List Int}, o.Nodup → runW n o L = .nx o' → o'.Perm o ∧ o'.filter (fun x => decide (x ∈ n)) = o.filter (fun x => decide (x ∈ n)) ∧ ∀ e ∈ L, e.2.1 ∈ o
  | [], o, o', _, h => by
    cases h
    exact ⟨.refl _, rfl, fun _ h => absurd h (by simp)⟩
  | e :: L, o, o', hd, h => by
    unfold runW at h
    cases q : badS n o e.2 with
    | true => rw [q] at h; simp at h
    | false =>
      rw [q] at h
      simp only [Bool.false_eq_true, if_false] at h
      obtain ⟨b1, b2, b3, b4⟩ := bad_not q
      have pp := put_perm (i := e.2.2) hd b1
      obtain ⟨h1, h2, h3⟩ := run_nx (pp.nodup_iff.mpr hd) h
      refine ⟨h1.trans pp, h2.trans (put_filter b2), fun x hx => ?_⟩
      rcases List.mem_cons.mp hx with e' | hx
      · rw [e']; exact b1
      · exact pp.mem_iff.mp (h3 x hx)
theorem run_rt {n : List Int} : ∀ {L : List (Int × (Int × Int))} {o : List Int} {r : List Int × Int}, runW n o L = .rt r → ∃ e ∈ L, r.2 = e.1
  | [], o, r, h => by cases h
  | e :: L, o, r, h => by
    unfold runW at h
    cases q : badS n o e.2 with
    | true => rw [q] at h; simp at h; subst h; exact ⟨e, List.mem_cons_self, rfl⟩
    | false =>
      rw [q] at h
      simp only [Bool.false_eq_true, if_false] at h
      obtain ⟨x, hx, e'⟩ := run_rt h
      exact ⟨x, List.mem_cons_of_mem _ hx, e'⟩
/-- what stands sorted in the end had no clash -/
theorem sorted_noclash {o o' n : List Int} (hd : o.Nodup) (hn : ∀ b ∈ n, b ∈ o) (hp : o'.Perm o) (hf : o'.filter (fun x => decide (x ∈ n)) = o.filter fun x => decide (x ∈ n)) (hs : o' = isort o') : NoClash o n := by
  have s1 : o'.Pairwise (· ≤ ·) := hs ▸ isort_sorted o'
  have s2 := lt_of_le_nodup _ s1 (hp.nodup_iff.mpr hd)
  have s3 : (o.filter fun x => decide (x ∈ n)).Pairwise (· < ·) := hf ▸ s2.filter _
  intro a ha b hb _
  exact sr_inc hd List.filter_sublist s3 (List.mem_filter.mpr ⟨hn a ha, by simpa using ha⟩) (List.mem_filter.mpr ⟨hn b hb, by simpa using hb⟩)
end PU
namespace Fw
open PySem L2 PU
theorem put_rest {here : List Int} {b : Int} (hl : here.length ≤ 10000) : lc? (fun x : Int => some !decide (x = b)) (fun x => some x) here = some (rest here b) := lc_filter (by omega) fun _ _ => rfl
theorem put_cat {here : List Int} {b i : Int} (hl : here.length ≤ 10000) (hi : 0 ≤ i) : ((cat? (cut (rest here b) none (some i)) [b]).bind fun x => cat? x (cut (rest here b) (some i) none)) = some (put here b i) := by
  have := put_full (b := b) hl hi
  unfold put_at at this
  simp only [Option.bind_some, put_rest hl] at this
  exact this
theorem course_run {o n : List Int} {f : List (Int × Int)} (hd : o.Nodup) (hl : o.length ≤ 10000) : course o n f = some (match runW n o (enumL f) with | .nx o' => (o', -1) | .rt r => r) := by
  unfold course
  simp only [Option.bind_some]
  have key : ∀ (L : List (Int × (Int × Int))) (o : List Int), o.Nodup → o.length ≤ 10000 →
      forB (β := List Int × Int) (fun s1 a3 => (if (!decide (a3.snd.fst ∈ s1)) = true then some true else if decide (a3.snd.fst ∈ n) = true then some true else (if decide (0 ≤ a3.snd.snd) = true then some (decide (a3.snd.snd < (s1.length : Int))) else some false).bind fun x12 => some !x12).bind fun b15 =>
        if b15 = true then some (Rr.rt (s1, a3.fst)) else (put_at s1 a3.snd.fst a3.snd.snd).bind fun v_order_21 => some (Rr.nx v_order_21)) o L = some (runW n o L) := by
    intro L
    induction L with
    | nil => intro o _ _; rfl
    | cons q L ih =>
      intro o hd hl
      show Option.bind _ _ = _
      dsimp only
      rw [bad_eq n o q.2]
      unfold runW
      cases hb : badS n o q.2 with
      | true => rfl
      | false =>
        obtain ⟨a, _, c, _⟩ := bad_not hb
        have pp := put_perm (i := q.2.2) hd a
        simp only [Option.bind_some, Bool.false_eq_true, if_false, put_full hl c]
        exact ih _ (pp.nodup_iff.mpr hd) (by rw [pp.length_eq]; exact hl)
  rw [key (enumL f) o hd hl]
  cases runW n o (enumL f) <;> rfl
theorem law_outcome_run {o w n : List Int} {f : List (Int × Int)} (h : Bks o w) (hl : o.length ≤ 60) : _law_outcome o w n f = some (match runW n o (enumL f) with
    | .nx o' => if o' = isort o' then (-1, sumW w (f.map (·.1))) else ((f.length : Int), 0)
    | .rt r => (r.2, 0)) := by
  unfold _law_outcome
  simp only [Option.bind_some]
  have key : ∀ (L : List (Int × (Int × Int))) (o : List Int) (c : Int), Bks o w → o.length ≤ 60 →
      forB (β := Int × Int) (fun (s4 : List Int × Int) (a6 : Int × (Int × Int)) => (if (!decide (a6.snd.fst ∈ s4.fst)) = true then some true else if decide (a6.snd.fst ∈ n) = true then some true else (if decide (0 ≤ a6.snd.snd) = true then some (decide (a6.snd.snd < (s4.fst.length : Int))) else some false).bind fun x15 => some !x15).bind fun b18 =>
        if b18 = true then some (Rr.rt (a6.fst, 0)) else (lc? (fun x22 => some !decide (x22 = a6.snd.fst)) (fun a21 => some a21) s4.fst).bind fun v_rest_26 =>
          ((cat? (cut v_rest_26 none (some a6.snd.snd)) [a6.snd.fst]).bind fun x51 => cat? x51 (cut v_rest_26 (some a6.snd.snd) none)).bind fun v_here_53 => ((atI w a6.snd.fst).bind fun x57 => some (s4.snd + x57)).bind fun v_cost_58 => some (Rr.nx (v_here_53, v_cost_58))) (o, c) L =
        some (match runW n o L with | .nx o' => .nx (o', c + sumW w (L.map (·.2.1))) | .rt r => .rt (r.2, 0)) := by
    intro L
    induction L with
    | nil =>
      intro o c _ _
      show some (Rr.nx (o, c)) = some (Rr.nx (o, c + 0))
      rw [Int.add_zero]
    | cons q L ih =>
      intro o c hB hl
      show Option.bind _ _ = _
      dsimp only
      rw [bad_eq n o q.2]
      unfold runW
      cases hb : badS n o q.2 with
      | true => rfl
      | false =>
        obtain ⟨a, _, cc, _⟩ := bad_not hb
        have pp := put_perm (i := q.2.2) hB.nd a
        simp only [Option.bind_some, Bool.false_eq_true, if_false, put_rest (show o.length ≤ 10000 by omega), put_cat (show o.length ≤ 10000 by omega) cc, hB.w a]
        have := ih (put o q.2.1 q.2.2) (c + W w q.2.1) ⟨fun b hb => hB.rg b (pp.mem_iff.mp hb), hB.po, pp.nodup_iff.mpr hB.nd, by rw [pp.length_eq]; exact hB.le⟩ (by rw [pp.length_eq]; exact hl)
        refine Eq.trans this ?_
        rw [List.map_cons, sumW_cons]
        cases runW n (put o q.2.1 q.2.2) L with
        | nx o' => simp only [Int.add_assoc]
        | rt r => rfl
  rw [key (enumL f) o 0 h hl]
  cases q : runW n o (enumL f) with
  | rt r => rfl
  | nx o' =>
    obtain ⟨p1, p2, p3⟩ := run_nx h.nd q
    have e : (enumL f).map (·.2.1) = f.map (·.1) := by
      have := congrArg (List.map Prod.fst) (enumL_snd f)
      rw [List.map_map] at this
      exact this
    have es : sort? o' = some (isort o') := by
      unfold sort?
      rw [if_pos (by rw [p1.length_eq]; omega)]
    simp only [Option.bind_some, Rr.goR, es, e, Int.zero_add]
    by_cases c : o' = isort o'
    · rw [if_pos c]
      simp only [← c, decide_true, if_true]
    · simp only [c, decide_false, Bool.false_eq_true, if_false]
/-- the program's outcome is the law's, less what is owed -/
theorem both_ok {o w n : List Int} {f : List (Int × Int)} (h : Row o w n) (hf : f.length ≤ 1000) : ∃ step cost ow, _law_outcome o w n f = some (step, cost) ∧ _law_owed o w n = some ow ∧ outcome o w n f = some (step, if step < 0 then cost - ow else 0) ∧ -1 ≤ step ∧ step ≤ f.length := by
  have hB := h.bks
  have hl := h.le
  obtain ⟨ow, e2, how⟩ := law_owed_ok h
  have e1 := law_outcome_run (n := n) (f := f) hB (by omega)
  have e3 := course_run (n := n) (f := f) hB.nd (by omega)
  unfold outcome
  simp only [Option.bind_some]
  cases q : runW n o (enumL f) with
  | rt r =>
    rw [q] at e1 e3
    obtain ⟨e, he, e'⟩ := run_rt q
    obtain ⟨i, hi⟩ := List.mem_iff_getElem?.mp he
    have h1 := enumL_at hi
    have hr : 0 ≤ r.2 := by rw [e', h1.1]; omega
    have hr' : r.2 ≤ f.length := by
      have := (List.getElem?_eq_some_iff.mp h1.2).1
      rw [e', h1.1]; omega
    refine ⟨r.2, 0, ow, e1, e2, ?_, by omega, hr'⟩
    have nl : ¬ r.2 < 0 := by omega
    simp only [e3, Option.bind_some, hr, decide_true, if_true, nl, if_false]
  | nx o' =>
    rw [q] at e1 e3
    obtain ⟨p1, p2, p3⟩ := run_nx hB.nd q
    have es : sort? o' = some (isort o') := by
      unfold sort?
      rw [if_pos (by rw [p1.length_eq]; omega)]
    have d1 : decide ((0 : Int) ≤ -1) = false := by decide
    simp only at e1
    by_cases c : o' = isort o'
    · rw [if_pos c] at e1
      have nc := sorted_noclash hB.nd h.nb p1 p2 c
      obtain ⟨l, _, hb, eo⟩ := owed_ok h nc
      have ew : ow = w.sum - sumW w l := by
        rcases how with ⟨_, l', hb', rfl⟩ | ⟨_, a, b, h1, h2, h3, h4⟩
        · rw [hb.uniq hb']
        · have := nc a h1 b h2 h3
          rw [h4] at this
          cases this
      have fin : ∀ b : Int, b ∈ f.map (·.1) → 0 ≤ b ∧ b < w.length := fun b hb => by
        obtain ⟨x, hx, rfl⟩ := List.mem_map.mp hb
        obtain ⟨i, hi⟩ := List.mem_iff_getElem?.mp hx
        have hil := (List.getElem?_eq_some_iff.mp hi).1
        have hm : ((i : Int), x) ∈ enumL f := by
          have h1 : (enumL f)[i]? = some ((i : Int), x) := by
            have hlt : i < (enumL f).length := by rw [enumL_len]; exact hil
            obtain ⟨a1, a2⟩ := enumL_at (List.getElem?_eq_getElem hlt)
            rw [List.getElem?_eq_getElem hlt]
            congr 1
            rw [hi] at a2
            exact Prod.ext a1 (Option.some.inj a2).symm
          exact List.mem_of_getElem? h1
        exact hB.rg _ (p3 _ hm)
      refine ⟨-1, _, ow, e1, e2, ?_, by omega, by omega⟩
      have e6 : lc? (fun _ => some true) (fun a18 : Int × Int => some a18.1) f = some (f.map (·.1)) := lc_map (by omega) fun _ _ => rfl
      have e7 := weight_ok (w := w) fin (by rw [List.length_map]; omega)
      simp only [e3, d1, es, e6, e7, eo, Option.bind_some, Bool.false_eq_true, if_false]
      rw [← c]
      simp [ew]
    · rw [if_neg c] at e1
      refine ⟨_, 0, ow, e1, e2, ?_, by omega, Int.le_refl _⟩
      have nl : ¬ (f.length : Int) < 0 := by omega
      simp only [e3, d1, es, Option.bind_some, Bool.false_eq_true, if_false, c, decide_false, Bool.not_false, if_true, nl]
end Fw

set_option Elab.async false
set_option linter.all false
/-! MS: the plans that a law makes; what answers made by hand show. -/
namespace PU
open PySem L2
theorem pickL_map {α β : Type} (g : α → β) (xs : List α) (lo : Option Int) (k : Int) : pickL (xs.map g) lo k = (pickL xs lo k).map g := by
  unfold pickL
  rw [List.length_map, List.map_filterMap]
  congr 1
  funext i
  rw [List.getElem?_map]
theorem pickL_le {α : Type} (xs : List α) (lo : Option Int) (k : Int) : (pickL xs lo k).length ≤ xs.length := by
  have h1 := slicePick_size_le (xs.map fun _ => Value.none).toArray lo none (some k)
  have e5 : slicePick (xs.map fun _ => Value.none).toArray lo none (some k) = (pickL (xs.map fun _ => Value.none) lo k).toArray := by
    unfold slicePick pickL
    simp
  rw [e5, List.size_toArray, List.size_toArray, pickL_map, List.length_map, List.length_map] at h1
  exact h1
theorem cut_len {α : Type} (xs : List α) (lo hi : Option Int) : (cut xs lo hi).length ≤ xs.length := by
  unfold cut
  rw [List.length_take, List.length_drop]
  omega
theorem cut_mem {α : Type} {xs : List α} {lo hi : Option Int} {x : α} (h : x ∈ cut xs lo hi) : x ∈ xs := by
  unfold cut at h
  exact List.drop_subset _ _ (List.take_subset _ _ h)
end PU
namespace Fw
open PySem L2 PU
theorem plans_ok (s : Scr) {b : Int} {o w n : List Int} {f : List (Int × Int)} (hb : 0 ≤ b) (hb' : b ≤ 100) (h : Row o w n) (hf : f.length ≤ 24) : Ok (_law_plans s b o w n f) fun ps => ps.length ≤ 1000 ∧ ∀ p ∈ ps, p.length ≤ 60 := by
  have hne := h.ne
  have cl : ∀ lo hi, (cut f lo hi).length ≤ 24 := fun lo hi => Nat.le_trans (cut_len _ _ _) hf
  unfold _law_plans
  simp only [Option.bind_some]
  simp only [cells_ok, Option.bind_some]
  have cs := cells_len s
  generalize cells s = c at cs
  refine Ok.bind (A := fun d : List (Int × Int) => d.length ≤ 9) ?_ fun d hd => ?_
  · refine Ok.bind (A := fun l => ∃ k : Nat, k ≤ 9 ∧ l = rng 0 (k : Int)) ?_ ?_
    · refine Ok.bind (Ok.fmod (by decide)) fun x hx => ?_
      refine (Ok.rng (by omega) (by omega)).mono fun l hl => ⟨x.toNat, by omega, ?_⟩
      rw [hl, show ((x.toNat : Nat) : Int) = x by omega]
    · rintro _ ⟨k, hk, rfl⟩
      refine (Ok.forS (fun k (d : List (Int × Int)) => d.length ≤ k) (by simp) ?_).mono fun d hd => by rw [rng0_len] at hd; omega
      intro i d a ea hd
      obtain ⟨a1, a2⟩ := rng_at ea
      simp only [Int.zero_add] at a1 a2
      refine Ok.bind (A := fun _ => True) ?_ fun num _ => ?_
      · refine Ok.bind (A := fun _ => True) ?_ fun x _ => (Ok.fdiv (by decide) (by decide)).mono fun _ _ => trivial
        refine Ok.bind (A := fun _ => True) ?_ fun x _ => number_ok (by omega) (by omega)
        refine Ok.bind (A := fun _ => True) ?_ fun x _ => .pure trivial
        exact Ok.bind (Ok.fmod (by omega)) fun x h => (Ok.at h.2.1 h.2.2).mono fun _ _ => trivial
      · refine Ok.bind (A := fun _ => True) ?_ fun x _ => ?_
        · refine Ok.bind (Ok.fmod (by omega)) fun x _ => ?_
          refine Ok.bind (A := fun _ => True) ?_ fun y _ => .pure trivial
          refine Ok.bind (A := fun _ => True) ((Ok.fdiv (by decide) (by decide)).mono fun _ _ => trivial) fun y _ => (Ok.fmod (by omega)).mono fun _ _ => trivial
        · exact Ok.bind (Ok.app (by omega)) fun e he => .pure (by rw [he, List.length_append, List.length_singleton]; omega)
  · have c1 : cat? d f = some (d ++ f) := cat_ok (by omega)
    have c2 : cat? f (cut f (some (-1)) none) = some (f ++ cut f (some (-1)) none) := cat_ok (by have := cl (some (-1)) none; omega)
    have c3 : cat? f [((0 : Int), (0 : Int))] = some (f ++ [(0, 0)]) := cat_ok (by simp; omega)
    have c4 : cat? [((o.length : Int) - 1, (o.length : Int) - 1)] f = some ([((o.length : Int) - 1, (o.length : Int) - 1)] ++ f) := cat_ok (by simp; omega)
    simp only [c1, c2, c3, c4, Option.bind_some]
    refine Ok.bind (A := fun ps : List (List (Int × Int)) => ps.length ≤ 1000) ?_ fun ps hps => ?_
    · refine Ok.bind (A := fun l : List Int => l.length = 2 ∧ (f ≠ [] → ∀ x ∈ l, 0 ≤ x ∧ x < f.length)) ?_ ?_
      · refine Ok.bind (A := fun t : Tu Int => t.xs.length = 2 ∧ (f ≠ [] → ∀ x ∈ t.xs, 0 ≤ x ∧ x < f.length)) ?_ fun t ht => .pure ht
        refine Ok.bind (A := fun t : List Int => t.length = 2 ∧ (f ≠ [] → ∀ x ∈ t, 0 ≤ x ∧ x < f.length)) ?_ fun t ht => .pure ht
        refine Ok.bind (A := fun x : Int => 0 ≤ x ∧ (f ≠ [] → x < f.length)) ?_ fun x hx => .pure ⟨rfl, fun hn y hy => ?_⟩
        · refine Ok.bind (A := fun _ => True) ((Ok.fdiv (by decide) (by decide)).mono fun _ _ => trivial) fun y _ => ?_
          refine (Ok.fmod (by split <;> omega)).mono fun z hz => ⟨hz.2.1, fun hn => ?_⟩
          have := List.length_pos_iff.mpr hn
          have := hz.2.2
          split at this <;> omega
        · have := List.length_pos_iff.mpr hn
          have := hx.2 hn
          simp at hy
          omega
      · intro l hl
        refine (Ok.forS (fun k (ps : List (List (Int × Int))) => ps.length ≤ 7 + 20 * k) (by simp) ?_).mono fun ps hps => by rw [hl.1] at hps; omega
        intro i ps a ea hp
        have hi : i < 2 := by
          have := (List.getElem?_eq_some_iff.mp ea).1
          rw [hl.1] at this; exact this
        refine Ok.bind (A := fun ps : List (List (Int × Int)) => ps.length ≤ 7 + 20 * (i + 1)) ?_ fun ps h => .pure h
        refine Ok.ite (fun hn => ?_) fun _ => .pure (by omega)
        have hn : f ≠ [] := by simpa using hn
        have ra := hl.2 hn a (List.mem_of_getElem? ea)
        refine Ok.bind (Ok.at ra.1 ra.2) fun z _ => ?_
        have k1 : ∀ lo hi lo' hi', cat? (cut f lo hi) (cut f lo' hi') = some (cut f lo hi ++ cut f lo' hi') := fun lo hi lo' hi' => cat_ok (by have := cl lo hi; have := cl lo' hi'; omega)
        have p20 : pow? 10 20 = some (10 ^ 20) := rfl
        simp only [k1, p20, Option.bind_some]
        simp only [cat_ok (show ps.length + [cut f none (some a) ++ cut f (some (a + 1)) none, cut f none (some (a + 1)) ++ cut f (some a) none].length ≤ 100000 by simp; omega), Option.bind_some]
        refine Ok.bind (Ok.cat (by simp)) fun rows hr => ?_
        have rl : rows.length = 8 := by rw [hr]; rfl
        refine Ok.bind (A := fun ps' : List (List (Int × Int)) => ps'.length ≤ 7 + 20 * (i + 1)) ?_ fun ps h => .pure h
        refine Ok.bind (A := fun qs : List (List (Int × Int)) => qs.length = 8) ?_ fun qs hq => ?_
        · refine Ok.lc (A := fun _ => True) (by omega) (fun r _ => ?_) fun ys h1 _ => by rw [h1, rl]
          refine Ok.bind (Ok.cat (by have := cl none (some a); simp only [List.length_singleton]; omega)) fun x hx => ?_
          refine (Ok.cat ?_).mono fun _ _ => trivial
          have := cl none (some a)
          have := cl (some (a + 1)) none
          rw [hx, List.length_append, List.length_singleton]
          omega
        · refine (Ok.cat (by simp [hq]; omega)).mono fun ps' h => ?_
          rw [h]
          simp [hq]
          omega
    · rw [lc_filter (c' := fun a : List (Int × Int) => decide ((a.length : Int) < 61)) (by omega) fun _ _ => rfl]
      refine .pure ⟨Nat.le_trans (List.length_filter_le _ _) hps, fun p hp => ?_⟩
      have := (List.mem_filter.mp hp).2
      simp at this
      omega
/-- what the answers made by hand show -/
theorem shows_ok {o w n : List Int} {p : List (Int × Int)} (h : Row o w n) (hp : p.length ≤ 60) : ∃ step cost ow, _law_outcome o w n p = some (step, cost) ∧ _law_owed o w n = some ow ∧ -1 ≤ step ∧
    pick [2, 3, 4] Ans.thrifty.cls (ms_shows_4 Ans.thrifty.cls Ans.thrifty o w n p) = some (decide (step < 0) && decide (cost - ow = 0)) ∧
    (∀ a, pick [2, 3, 4] (Ans.dear a).cls (ms_shows_4 (Ans.dear a).cls (.dear a) o w n p) = some (decide (step < 0) && (decide (a = cost - ow) && decide (0 < cost - ow)))) ∧
    (∀ a, pick [2, 3, 4] (Ans.wrong a).cls (ms_shows_4 (Ans.wrong a).cls (.wrong a) o w n p) = some (decide (0 ≤ a) && decide (a = step))) := by
  obtain ⟨step, cost, ow, e1, e2, e3, h1, h2⟩ := both_ok (f := p) h (by omega)
  have P : ∀ k, decide ((step, if step < 0 then cost - ow else 0) = (-1, k)) = (decide (step < 0) && decide (cost - ow = k)) := fun k => by
    by_cases c : step < 0
    · have : step = -1 := by omega
      subst this
      simp
    · have : ¬ step = -1 := by omega
      simp [c, this]
  refine ⟨step, cost, ow, e1, e2, h1, ?_, fun a => ?_, fun a => ?_⟩
  · show pick [2, 3, 4] 2 (ms_shows_4 2 Ans.thrifty o w n p) = _
    unfold ms_shows_4
    rw [if_pos rfl]
    unfold Thrifty_shows
    simp only [Option.bind_some, e3, P]
    rfl
  · show pick [2, 3, 4] 3 (ms_shows_4 3 (Ans.dear a) o w n p) = _
    unfold ms_shows_4
    rw [if_neg (by decide), if_pos rfl]
    unfold Dear_shows
    simp only [Ans.more?, Option.bind_some, e3, P]
    by_cases c : 0 < a
    · simp only [c, decide_true, if_true]
      show some _ = some _
      congr 1
      by_cases d : cost - ow = a
      · subst d
        simp [c]
        intro _; omega
      · have d' : ¬ a = cost - ow := fun e => d e.symm
        simp [d, d']
    · simp only [c, decide_false, Bool.false_eq_true, if_false]
      show some _ = some _
      congr 1
      by_cases d : a = cost - ow
      · subst d
        simp [c]
        intro _; omega
      · simp [d]
  · show pick [2, 3, 4] 4 (ms_shows_4 4 (Ans.wrong a) o w n p) = _
    unfold ms_shows_4
    rw [if_neg (by decide), if_neg (by decide)]
    unfold Wrong_shows
    simp only [Ans.step?, Option.bind_some, e3]
    by_cases c : 0 ≤ a
    · simp only [c, decide_true, if_true, Bool.true_and]
      show some _ = some _
      congr 1
      by_cases d : step = a
      · subst d; simp
      · have d' : ¬ a = step := fun e => d e.symm
        simp [d, d']
    · simp only [c, decide_false, Bool.false_eq_true, if_false, Bool.false_and]
      rfl
theorem says_eq (a b : Bool) : _law_says a b = some (decide (a = b)) := by
  unfold _law_says
  rfl
end Fw

set_option Elab.async false
set_option linter.all false
/-! MJ: what is told of a plan, whatever plan it is. -/
namespace PU
open PySem L2
theorem put_filterM {o m : List Int} {b i : Int} (hb : b ∉ m) : (put o b i).filter (fun x => decide (x ∈ m)) = o.filter fun x => decide (x ∈ m) := put_filter hb
theorem run_keep {n m : List Int} : ∀ {L : List (Int × (Int × Int))} {o o' : List Int}, o.Nodup → runW n o L = .nx o' → (∀ e ∈ L, e.2.1 ∉ m) → o'.filter (fun x => decide (x ∈ m)) = o.filter (fun x => decide (x ∈ m)) ∧ ∀ e ∈ L, e.2.1 ∉ n
  | [], o, o', _, h, _ => by
    cases h
    exact ⟨rfl, fun _ h => absurd h (by simp)⟩
  | e :: L, o, o', hd, h, hm => by
    unfold runW at h
    cases q : badS n o e.2 with
    | true => rw [q] at h; simp at h
    | false =>
      rw [q] at h
      simp only [Bool.false_eq_true, if_false] at h
      obtain ⟨b1, b2, b3, b4⟩ := bad_not q
      have pp := put_perm (i := e.2.2) hd b1
      obtain ⟨h2, h3⟩ := run_keep (m := m) (pp.nodup_iff.mpr hd) h fun x hx => hm x (List.mem_cons_of_mem _ hx)
      refine ⟨h2.trans (put_filter (hm e List.mem_cons_self)), fun x hx => ?_⟩
      rcases List.mem_cons.mp hx with e' | hx
      · rw [e']; exact b2
      · exact h3 x hx
theorem sum_le {w : List Int} : ∀ {l F : List Int}, l.Nodup → (∀ x ∈ l, x ∈ F) → (∀ x ∈ F, 0 ≤ W w x) → sumW w l ≤ sumW w F
  | [], F, _, _, hp => by
    rw [sumW_nil]
    have : ∀ F : List Int, (∀ x ∈ F, 0 ≤ W w x) → 0 ≤ sumW w F := by
      intro F
      induction F with
      | nil => exact fun _ => Int.le_refl _
      | cons y F ih =>
        intro hp
        rw [sumW_cons]
        have := hp y List.mem_cons_self
        have := ih fun x hx => hp x (List.mem_cons_of_mem _ hx)
        omega
    exact this F hp
  | x :: l, F, hd, hs, hp => by
    obtain ⟨h1, h2⟩ := List.nodup_cons.mp hd
    have hx := hs x List.mem_cons_self
    have pe := List.perm_cons_erase hx
    rw [sumW_perm pe, sumW_cons, sumW_cons]
    have := sum_le (w := w) (l := l) (F := F.erase x) h2 (fun y hy => (List.mem_erase_of_ne (fun c => h1 (by rw [← c]; exact hy))).mpr (hs y (List.mem_cons_of_mem _ hy))) fun y hy => hp y (List.mem_of_mem_erase hy)
    omega
end PU
namespace Fw
open PySem L2 PU
theorem enum_books {f : List (Int × Int)} {b : Int} (h : b ∈ f.map (·.1)) : ∃ e ∈ enumL f, e.2.1 = b := by
  obtain ⟨x, hx, rfl⟩ := List.mem_map.mp h
  obtain ⟨i, hi⟩ := List.mem_iff_getElem?.mp hx
  have hil := (List.getElem?_eq_some_iff.mp hi).1
  have hlt : i < (enumL f).length := by rw [enumL_len]; exact hil
  obtain ⟨a1, a2⟩ := enumL_at (List.getElem?_eq_getElem hlt)
  rw [hi] at a2
  exact ⟨(enumL f)[i], List.getElem_mem _, by rw [← Option.some.inj a2]⟩
theorem enum_mem {f : List (Int × Int)} {e : Int × (Int × Int)} (h : e ∈ enumL f) : e.2.1 ∈ f.map (·.1) := by
  obtain ⟨i, hi⟩ := List.mem_iff_getElem?.mp h
  exact List.mem_map.mpr ⟨_, List.mem_of_getElem? (enumL_at hi).2, rfl⟩
/-- whatever plan sets in order costs what is owed at least -/
theorem cost_ge {o w n l : List Int} {o' : List Int} {f : List (Int × Int)} (h : Row o w n) (q : runW n o (enumL f) = .nx o') (hs : o' = isort o') (hb : Best (free o n) w l) : w.sum - sumW w l ≤ sumW w (f.map (·.1)) := by
  have hB := h.bks
  let m := o.filter fun x => !decide (x ∈ f.map (·.1))
  have mo : m.Sublist o := List.filter_sublist
  have mm : ∀ x, x ∈ m ↔ x ∈ o ∧ x ∉ f.map (·.1) := fun x => by
    show x ∈ o.filter _ ↔ _
    rw [List.mem_filter]; simp
  obtain ⟨k1, k2⟩ := run_keep (m := m) hB.nd q fun e he c => ((mm _).mp c).2 (enum_mem he)
  obtain ⟨p1, _, p3⟩ := run_nx hB.nd q
  have em : o.filter (fun x => decide (x ∈ m)) = m := by
    show _ = o.filter _
    refine List.filter_congr fun x hx => ?_
    by_cases c : x ∈ f.map (·.1)
    · rw [decide_eq_false (fun z => ((mm x).mp z).2 c)]; simp [c]
    · rw [decide_eq_true ((mm x).mpr ⟨hx, c⟩)]; simp [c]
  rw [em] at k1
  have s1 : o'.Pairwise (· ≤ ·) := hs ▸ isort_sorted o'
  have s2 := lt_of_le_nodup _ s1 (p1.nodup_iff.mpr hB.nd)
  have s3 : m.Pairwise (· < ·) := k1 ▸ s2.filter _
  have nm : ∀ b ∈ n, b ∈ m := fun b hb => (mm b).mpr ⟨h.nb b hb, fun c => by
    obtain ⟨e, he, rfl⟩ := enum_books c
    exact k2 e he hb⟩
  have top := hb.top m (good_free hB.nd mo s3 nm) s3
  have ss := split_sum (w := w) (l := m) h.pm h.wl mo hB.nd
  have le := sum_le (w := w) (l := (rng 0 o.length).filter fun b => !decide (b ∈ m)) (F := f.map (·.1)) ((rng_nodup _ _).filter _) (fun x hx => ?_) fun x hx => ?_
  · omega
  · obtain ⟨h1, h2⟩ := List.mem_filter.mp hx
    have hxo : x ∈ o := h.pm.mem_iff.mpr h1
    refine Classical.byContradiction fun c => ?_
    have : x ∈ m := (mm x).mpr ⟨hxo, c⟩
    simp [this] at h2
  · obtain ⟨e, he, rfl⟩ := enum_books hx
    have := hB.pos (p3 e he)
    omega
/-- what both tell of a plan -/
theorem both_full {o w n : List Int} {f : List (Int × Int)} (h : Row o w n) (hf : f.length ≤ 1000) : ∃ step cost ow, _law_outcome o w n f = some (step, cost) ∧ _law_owed o w n = some ow ∧ outcome o w n f = some (step, if step < 0 then cost - ow else 0) ∧ -1 ≤ step ∧ step ≤ f.length ∧ (step < 0 → ow ≤ cost) := by
  obtain ⟨step, cost, ow, e1, e2, e3, h1, h2⟩ := both_ok h hf
  refine ⟨step, cost, ow, e1, e2, e3, h1, h2, fun hs => ?_⟩
  have hB := h.bks
  have hl := h.le
  have r1 := law_outcome_run (n := n) (f := f) hB (by omega)
  rw [e1] at r1
  cases q : runW n o (enumL f) with
  | rt r =>
    rw [q] at r1
    obtain ⟨e, he, e'⟩ := run_rt q
    obtain ⟨i, hi⟩ := List.mem_iff_getElem?.mp he
    have := (enumL_at hi).1
    cases r1
    omega
  | nx o' =>
    rw [q] at r1
    simp only at r1
    by_cases c : o' = isort o'
    · rw [if_pos c] at r1
      cases r1
      obtain ⟨p1, p2, _⟩ := run_nx hB.nd q
      have nc := sorted_noclash hB.nd h.nb p1 p2 c
      obtain ⟨ow', e2', how⟩ := law_owed_ok h
      rw [e2] at e2'
      cases e2'
      rcases how with ⟨_, l', hb', rfl⟩ | ⟨_, a, b, h1, h2, h3, h4⟩
      · exact cost_ge h q c hb'
      · have := nc a h1 b h2 h3
        rw [h4] at this
        cases this
    · rw [if_neg c] at r1
      cases r1
      omega
/-- judged, of any plan -/
theorem judged_full {o w n : List Int} {f : List (Int × Int)} (h : Row o w n) (hf : f.length ≤ 60) : ∃ step cost ow a, _law_outcome o w n f = some (step, cost) ∧ _law_owed o w n = some ow ∧ judged o w n f = some a ∧ -1 ≤ step ∧
    ((0 ≤ step ∧ a = .wrong step) ∨ (step < 0 ∧ cost = ow ∧ a = .thrifty) ∨ (step < 0 ∧ ow < cost ∧ a = .dear (cost - ow))) := by
  obtain ⟨step, cost, ow, e1, e2, e3, h1, h2, h3⟩ := both_full (f := f) h (by omega)
  by_cases c : 0 ≤ step
  · refine ⟨step, cost, ow, .wrong step, e1, e2, ?_, h1, .inl ⟨c, rfl⟩⟩
    unfold judged mk_Wrong
    simp only [Option.bind_some, check_ok h, plan_ok hf, e3, c, decide_true, if_true]
  · have hs : step < 0 := by omega
    have e4 : outcome o w n f = some (-1, cost - ow) := by rw [e3, if_pos hs]; congr 2; omega
    have hj := judged_ok h hf e4
    have := h3 hs
    by_cases d : 0 < cost - ow
    · rw [if_pos d] at hj
      exact ⟨step, cost, ow, _, e1, e2, hj, h1, .inr (.inr ⟨hs, by omega, rfl⟩)⟩
    · rw [if_neg d] at hj
      exact ⟨step, cost, ow, _, e1, e2, hj, h1, .inr (.inl ⟨hs, by omega, rfl⟩)⟩
end Fw

set_option Elab.async false
set_option linter.all false
/-! MT: what is told of takings, whatever is nailed. -/
namespace PU
open PySem L2
theorem Row.rev {o w n : List Int} (h : Row o w n) : Row o.reverse w n where
  pm := by rw [List.length_reverse]; exact (List.reverse_perm o).trans h.pm
  ne := by rw [List.length_reverse]; exact h.ne
  le := by rw [List.length_reverse]; exact h.le
  wl := by rw [List.length_reverse]; exact h.wl
  lo := h.lo
  hi := h.hi
  nr := h.nr
  nb := fun b hb => List.mem_reverse.mpr (h.nb b hb)
theorem Row.revw {o w n : List Int} (h : Row o w n) : Row o w.reverse n where
  pm := h.pm
  ne := h.ne
  le := h.le
  wl := by rw [List.length_reverse]; exact h.wl
  lo := fun x hx => h.lo x (List.mem_reverse.mp hx)
  hi := fun x hx => h.hi x (List.mem_reverse.mp hx)
  nr := h.nr
  nb := h.nb
theorem Row.sub {o w n n' : List Int} (h : Row o w n) (s : n'.Sublist n) : Row o w n' := h.nail (h.nr.sublist s) fun b hb => h.nb b (s.subset hb)
theorem Row.init {o w n : List Int} (h : Row o w n) : Row o w n.dropLast := h.sub (List.dropLast_sublist n)
theorem Row.srt {o w n : List Int} (h : Row o w n) : Row (rng 0 o.length) w n where
  pm := by rw [rng0_len]
  ne := by rw [rng0_len]; exact h.ne
  le := by rw [rng0_len]; exact h.le
  wl := by rw [rng0_len]; exact h.wl
  lo := h.lo
  hi := h.hi
  nr := h.nr
  nb := fun b hb => h.pm.mem_iff.mp (h.nb b hb)
theorem Row.isort {o w n : List Int} (h : Row o w n) : isort o = rng 0 o.length := by
  have p : (PU.isort o).Perm (rng 0 o.length) := (isort_perm o).trans h.pm
  have s1 : (PU.isort o).Pairwise (· ≤ ·) := isort_sorted o
  have s2 : (rng 0 o.length).Pairwise (· ≤ ·) := (rng_rise _ _).imp fun h => Int.le_of_lt h
  exact p.eq_of_pairwise (fun a b _ _ h1 h2 => Int.le_antisymm h1 h2) s1 s2
end PU
namespace Fw
open PySem L2 PU
theorem Row.sort_ok {o w n : List Int} (h : Row o w n) : sort? o = some (rng 0 o.length) := by
  have := h.le
  unfold sort?
  rw [if_pos (by omega), h.isort]
/-- takings, or None: as is due -/
theorem takings_told {o w n : List Int} (h : Row o w n) :
    (NoClash o n ∧ ∃ f l, takings o w n = some (some f) ∧ Valid n o f ∧ play o f = rng 0 o.length ∧ f.length ≤ 24 ∧ Best (free o n) w l ∧ f.map (·.1) = ((rng 0 o.length).filter fun b => !decide (b ∈ l)) ∧ _law_owed o w n = some (sumW w (f.map (·.1))) ∧ 0 ≤ sumW w (f.map (·.1))) ∨
    (takings o w n = some none ∧ _law_owed o w n = some (-1)) := by
  have hB := h.bks
  obtain ⟨ow, eo, ho⟩ := law_owed_ok h
  rcases ho with ⟨hc, l', hb', rfl⟩ | ⟨rfl, a, b, ha, hb, hlt, hs⟩
  · left
    obtain ⟨l, f, e1, hb, e2, e3, hv, hp⟩ := takings_full h hc
    have lo : l.Sublist o := hb.sub.trans (free_sub o n)
    have ss := split_sum (w := w) (l := l) h.pm h.wl lo hB.nd
    have es : sumW w (f.map (·.1)) = w.sum - sumW w l' := by rw [e3, ss, hb.uniq hb']
    have fl : f.length ≤ 24 := by
      have : f.length = (f.map (·.1)).length := by simp
      rw [this, e3]
      have := List.length_filter_le (fun b => !decide (b ∈ l)) (rng 0 o.length)
      rw [PU.rng_len] at this
      have := h.le
      omega
    refine ⟨hc, f, l, e2, hv, hp, fl, hb, e3, by rw [es]; exact eo, ?_⟩
    rw [e3]
    have : ∀ x ∈ (rng 0 o.length).filter (fun b => !decide (b ∈ l)), 0 ≤ W w x := fun x hx => by
      have := hB.pos (h.pm.mem_iff.mpr (List.mem_filter.mp hx).1)
      omega
    exact sum_le (l := []) .nil (fun _ h => absurd h (by simp)) this
  · right
    refine ⟨?_, eo⟩
    obtain ⟨r, e, hr⟩ := takings_ok h
    rcases hr with ⟨nc, _⟩ | ⟨rfl, _⟩
    · have := nc a ha b hb hlt
      rw [hs] at this; cases this
    · exact e
end Fw

set_option Elab.async false
set_option linter.all false
/-! MB: whether rows bear, told by the program and by the law, whatever rows they are. -/
namespace PU
open PySem L2
def rise (l : List Int) : Bool := decide (l.Pairwise (· < ·))
def fall (l : List Int) : Bool := decide (l.Pairwise (· > ·))
def standB (o l : List Int) : Bool := l.all (fun b => decide (b ∈ o)) && rise (l.map fun b => (ix o b : Int))
def rowB (o : List Int) (r : List Int × Int) : Bool := decide (1 ≤ r.2) && (standB o r.1 && fall r.1)
def borneV (rows : List (List Int × Int)) (b : Int) : Int := (rows.map fun r => if b ∈ r.1 then r.2 else 0).sum
def bearsV (o w : List Int) (rows : List (List Int × Int)) : Int := if (rows.all (rowB o) && o.all fun b => decide (W w b ≤ borneV rows b)) = true then (rows.map (·.2)).sum else -1
theorem zip_pw {R : Int → Int → Prop} (tr : ∀ a b c, R a b → R b c → R a c) : ∀ l : List Int, l.Pairwise R ↔ ∀ p ∈ l.zip (l.drop 1), R p.1 p.2
  | [] => by simp
  | [a] => by simp
  | a :: b :: l => by
    have ih := zip_pw tr (b :: l)
    have e : (a :: b :: l).zip ((a :: b :: l).drop 1) = (a, b) :: (b :: l).zip ((b :: l).drop 1) := rfl
    rw [e]
    constructor
    · intro h q hq
      rcases List.mem_cons.mp hq with rfl | hq
      · exact (List.pairwise_cons.mp h).1 b List.mem_cons_self
      · exact ih.mp (List.pairwise_cons.mp h).2 q hq
    · intro h
      have h2 := ih.mpr fun q hq => h q (List.mem_cons_of_mem _ hq)
      have hab : R a b := h (a, b) List.mem_cons_self
      refine List.pairwise_cons.mpr ⟨fun x hx => ?_, h2⟩
      rcases List.mem_cons.mp hx with rfl | hx
      · exact hab
      · exact tr _ _ _ hab ((List.pairwise_cons.mp h2).1 x hx)
theorem any_rise (l : List Int) : ((l.zip (l.drop 1)).map fun p => decide (p.2 ≤ p.1)).any id = !rise l := by
  unfold rise
  rw [Bool.eq_iff_iff]
  simp only [List.any_map, List.any_eq_true, Bool.not_eq_true', decide_eq_false_iff_not]
  rw [zip_pw (R := fun a b => a < b) (fun a b c h1 h2 => Int.lt_trans h1 h2)]
  constructor
  · rintro ⟨q, hq, h⟩ hn
    have := hn q hq
    have : q.2 ≤ q.1 := by simpa using h
    omega
  · intro h
    refine Classical.byContradiction fun c => h fun q hq => ?_
    refine Classical.byContradiction fun d => c ⟨q, hq, ?_⟩
    simp
    omega
theorem any_fall (l : List Int) : ((l.zip (l.drop 1)).map fun p => decide (p.1 ≤ p.2)).any id = !fall l := by
  unfold fall
  rw [Bool.eq_iff_iff]
  simp only [List.any_map, List.any_eq_true, Bool.not_eq_true', decide_eq_false_iff_not]
  rw [zip_pw (R := fun a b => a > b) (fun a b c h1 h2 => Int.lt_trans h2 h1)]
  constructor
  · rintro ⟨q, hq, h⟩ hn
    have := hn q hq
    have : q.1 ≤ q.2 := by simpa using h
    omega
  · intro h
    refine Classical.byContradiction fun c => h fun q hq => ?_
    refine Classical.byContradiction fun d => c ⟨q, hq, ?_⟩
    simp
    omega
theorem sset_id {l : List Int} : l = sset l ↔ l.Pairwise (· < ·) := by
  constructor
  · intro h; rw [h]; exact sset_lt l
  · intro h
    have n1 : l.Nodup := h.imp fun h => Int.ne_of_lt h
    have n2 : (sset l).Nodup := (sset_lt l).imp fun h => Int.ne_of_lt h
    have p : l.Perm (sset l) := (List.perm_ext_iff_of_nodup n1 n2).mpr fun a => mem_sset.symm
    exact p.eq_of_pairwise (fun a b _ _ h1 h2 => absurd (Int.lt_trans h1 h2) (Int.lt_irrefl a)) h (sset_lt l)
theorem sset_rise (l : List Int) : decide (l = sset l) = rise l := by
  unfold rise
  by_cases c : l.Pairwise (· < ·)
  · rw [decide_eq_true c, decide_eq_true (sset_id.mpr c)]
  · rw [decide_eq_false c, decide_eq_false fun h => c (sset_id.mp h)]
theorem sset_fall (l : List Int) : decide (l = (sset l).reverse) = fall l := by
  have e : l = (sset l).reverse ↔ l.Pairwise (· > ·) := by
    constructor
    · intro h; rw [h]; exact List.pairwise_reverse.mpr (sset_lt l)
    · intro h
      have h' : l.reverse.Pairwise (· < ·) := List.pairwise_reverse.mpr h
      have n1 : l.Nodup := h.imp fun h => Ne.symm (Int.ne_of_lt h)
      have n2 : (sset l).Nodup := (sset_lt l).imp fun h => Int.ne_of_lt h
      have p : l.Perm (sset l) := (List.perm_ext_iff_of_nodup n1 n2).mpr fun a => mem_sset.symm
      have : l.reverse = sset l := ((List.reverse_perm l).trans p).eq_of_pairwise (fun a b _ _ h1 h2 => absurd (Int.lt_trans h1 h2) (Int.lt_irrefl a)) h' (sset_lt l)
      rw [← this, List.reverse_reverse]
  unfold fall
  by_cases c : l.Pairwise (· > ·)
  · rw [decide_eq_true c, decide_eq_true (e.mpr c)]
  · rw [decide_eq_false c, decide_eq_false fun h => c (e.mp h)]
theorem fall_nodup {l : List Int} (h : fall l = true) : l.Nodup := by
  have : l.Pairwise (· > ·) := by simpa [fall] using h
  exact this.imp fun h => Ne.symm (Int.ne_of_lt h)
theorem standB_mem {o l : List Int} (h : standB o l = true) : ∀ b ∈ l, b ∈ o := fun b hb => by
  unfold standB at h
  have := List.all_eq_true.mp (Bool.and_eq_true_iff.mp h).1 b hb
  simpa using this
theorem rowB_parts {o : List Int} {r : List Int × Int} (h : rowB o r = true) : 1 ≤ r.2 ∧ standB o r.1 = true ∧ fall r.1 = true := by
  unfold rowB at h
  have h1 := Bool.and_eq_true_iff.mp h
  have h2 := Bool.and_eq_true_iff.mp h1.2
  exact ⟨by simpa using h1.1, h2.1, h2.2⟩
/-! ### dicts -/
theorem getM_map {k v b : Int} : ∀ m : List (Int × Int), getM (m.map fun q => if q.1 = k then (q.1, v) else q) b = if b = k then (if (m.any fun q => decide (q.1 = k)) = true then some v else none) else getM m b
  | [] => by simp [getM]
  | q :: m => by
    have ih := getM_map (k := k) (v := v) (b := b) m
    unfold getM at ih ⊢
    rw [List.map_cons, List.find?_cons, List.find?_cons, List.any_cons]
    by_cases c : q.1 = k
    · by_cases d : b = k
      · subst d
        simp [c]
      · have : ¬ k = b := fun h => d h.symm
        simp only [c, if_true, d, if_false, decide_eq_true_eq, this] at ih ⊢
        simp [this, -List.find?_map, ih]
    · by_cases d : b = k
      · subst d
        simp only [c, if_false, decide_false, Bool.false_or] at ih ⊢
        simpa using ih
      · simp only [c, if_false, d] at ih ⊢
        by_cases e : q.1 = b
        · simp [e]
        · simp [e, -List.find?_map, ih]
theorem getM_any {k : Int} : ∀ {m : List (Int × Int)}, (m.any fun q => decide (q.1 = k)) = false → getM m k = none
  | [], _ => rfl
  | q :: m, h => by
    rw [List.any_cons] at h
    have h1 : decide (q.1 = k) = false := by
      cases c : decide (q.1 = k) with
      | false => rfl
      | true => rw [c] at h; simp at h
    have h2 : (m.any fun q => decide (q.1 = k)) = false := by rw [h1] at h; simpa using h
    have := getM_any h2
    unfold getM at this ⊢
    rw [List.find?_cons, h1]
    exact this
theorem getM_put {m : List (Int × Int)} {k v b : Int} : getM (putM m k v) b = if b = k then some v else getM m b := by
  unfold putM
  cases c : m.any fun q => decide (q.1 = k) with
  | true => rw [if_pos rfl, getM_map, c]; simp
  | false =>
    rw [if_neg (by simp)]
    have h0 := getM_any c
    unfold getM at h0 ⊢
    rw [List.find?_append]
    by_cases d : b = k
    · subst d
      have : m.find? (fun q => decide (q.1 = b)) = none := by
        cases e : m.find? (fun q => decide (q.1 = b)) with
        | none => rfl
        | some x => rw [e] at h0; cases h0
      rw [this]; simp
    · have : ¬ k = b := fun h => d h.symm
      rw [if_neg d]
      cases e : m.find? (fun q => decide (q.1 = b)) with
      | some x => simp
      | none => simp [this]
theorem getD_put {m : List (Int × Int)} {k v b : Int} : getD (putM m k v) b 0 = if b = k then v else getD m b 0 := by
  unfold getD
  rw [getM_put]
  by_cases d : b = k <;> simp [d]
theorem put_keys {m : List (Int × Int)} {k v : Int} (hd : (m.map (·.1)).Nodup) : ((putM m k v).map (·.1)).Nodup ∧ ∀ x, x ∈ (putM m k v).map (·.1) → x = k ∨ x ∈ m.map (·.1) := by
  unfold putM
  cases c : m.any fun q => decide (q.1 = k) with
  | true =>
    rw [if_pos rfl]
    have e : (m.map fun q => if q.1 = k then (q.1, v) else q).map (·.1) = m.map (·.1) := by
      rw [List.map_map]
      refine List.map_congr_left fun q _ => ?_
      show (if q.1 = k then (q.1, v) else q).1 = q.1
      by_cases d : q.1 = k <;> simp [d]
    rw [e]
    exact ⟨hd, fun x hx => .inr hx⟩
  | false =>
    rw [if_neg (by simp), List.map_append]
    have nk : k ∉ m.map (·.1) := fun h => by
      obtain ⟨q, hq, rfl⟩ := List.mem_map.mp h
      have : (m.any fun x => decide (x.1 = q.1)) = true := List.any_eq_true.mpr ⟨q, hq, by simp⟩
      rw [c] at this; cases this
    refine ⟨List.nodup_append.mpr ⟨hd, by simp, fun a ha b hb => ?_⟩, fun x hx => ?_⟩
    · have : b = k := by simpa using hb
      subst this
      exact fun h => nk (h ▸ ha)
    · rcases List.mem_append.mp hx with h | h
      · exact .inr h
      · exact .inl (by simpa using h)
theorem nodup_len : ∀ {l o : List Int}, l.Nodup → (∀ x ∈ l, x ∈ o) → l.length ≤ o.length
  | [], _, _, _ => Nat.zero_le _
  | x :: l, o, hd, hs => by
    obtain ⟨h1, h2⟩ := List.nodup_cons.mp hd
    have hx := hs x List.mem_cons_self
    have := nodup_len (l := l) (o := o.erase x) h2 fun y hy => (List.mem_erase_of_ne (fun c => h1 (by rw [← c]; exact hy))).mpr (hs y (List.mem_cons_of_mem _ hy))
    rw [List.length_erase_of_mem hx] at this
    have := List.length_pos_of_mem hx
    simp only [List.length_cons]
    omega
theorem keys_len {m : List (Int × Int)} {o : List Int} (hd : (m.map (·.1)).Nodup) (hs : ∀ x ∈ m.map (·.1), x ∈ o) : m.length ≤ o.length := by
  have : (m.map (·.1)).length ≤ o.length := nodup_len hd hs
  simpa using this
theorem borneV_append {p q : List (List Int × Int)} {b : Int} : borneV (p ++ q) b = borneV p b + borneV q b := by
  unfold borneV; rw [List.map_append, List.sum_append]
theorem borneV_one {r : List Int × Int} {b : Int} : borneV [r] b = if b ∈ r.1 then r.2 else 0 := by
  unfold borneV; simp
theorem take_snoc {α : Type} {xs : List α} {i : Nat} {a : α} (h : xs[i]? = some a) : xs.take (i + 1) = xs.take i ++ [a] := by
  rw [List.take_add_one, h]; rfl
end PU
namespace Fw
open PySem L2 PU
theorem are_in_ok {o l : List Int} (hl : l.length ≤ 100000) : are_in o l = some (standB o l) := by
  unfold are_in
  simp only [Option.bind_some]
  rw [lc_map (f' := fun x => decide (x ∈ o)) hl fun _ _ => rfl]
  simp only [Option.bind_some]
  have e : (l.map fun x => decide (x ∈ o)).all id = l.all fun b => decide (b ∈ o) := by rw [List.all_map]; rfl
  rw [e]
  unfold standB
  cases c : l.all fun b => decide (b ∈ o) with
  | false => rfl
  | true =>
    have hm : ∀ b ∈ l, b ∈ o := fun b hb => by simpa using List.all_eq_true.mp c b hb
    simp only [Bool.not_true, Bool.false_eq_true, if_false, Bool.true_and]
    rw [lc_map (f' := fun x => (ix o x : Int)) hl fun x hx => idx_of (hm x hx)]
    simp only [Option.bind_some, PU.cut_from _ (show (0 : Int) ≤ 1 by decide)]
    rw [lc_map (f' := fun p : Int × Int => decide (p.2 ≤ p.1)) (by rw [List.length_zip, List.length_map]; omega) fun _ _ => rfl]
    simp only [Option.bind_some]
    rw [show (1 : Int).toNat = 1 from rfl, any_rise, Bool.not_not]
theorem law_stand_ok {o l : List Int} (hl : l.length < 60) : _law_stand o l = some (standB o l) := by
  unfold _law_stand
  simp only [Option.bind_some]
  rw [lc_map (f' := fun x => !decide (x ∈ o)) (by omega) fun _ _ => rfl]
  simp only [Option.bind_some]
  have e : (l.map fun x => !decide (x ∈ o)).any id = !l.all fun b => decide (b ∈ o) := by
    rw [List.any_map, List.all_eq_not_any_not, Bool.not_not]; rfl
  rw [e]
  unfold standB
  cases c : l.all fun b => decide (b ∈ o) with
  | false => rfl
  | true =>
    have hm : ∀ b ∈ l, b ∈ o := fun b hb => by simpa using List.all_eq_true.mp c b hb
    simp only [Bool.not_true, Bool.false_eq_true, if_false, Bool.true_and]
    rw [lc_map (f' := fun x => (ix o x : Int)) (by omega) fun x hx => idx_of (hm x hx)]
    simp only [Option.bind_some]
    unfold sset?
    rw [if_pos (by rw [List.length_map]; exact hl)]
    simp only [Option.bind_some]
    rw [sset_rise]
theorem is_staying_ok {o l : List Int} (hl : l.length ≤ 100000) : is_staying o l = some (standB o l && rise l) := by
  unfold is_staying
  simp only [Option.bind_some, are_in_ok hl]
  cases standB o l with
  | false => rfl
  | true =>
    simp only [if_true, Bool.true_and, PU.cut_from _ (show (0 : Int) ≤ 1 by decide), Option.bind_some]
    rw [lc_map (f' := fun p : Int × Int => decide (p.2 ≤ p.1)) (by rw [List.length_zip]; omega) fun _ _ => rfl]
    simp only [Option.bind_some]
    rw [show (1 : Int).toNat = 1 from rfl, any_rise, Bool.not_not]
theorem bears_ok {o w : List Int} {rows : List (List Int × Int)} (h : Bks o w) (hr : ∀ r ∈ rows, r.1.length ≤ 100000) : bears o w rows = some (bearsV o w rows) := by
  have hle := h.le
  have : Ok (bears o w rows) fun x => x = bearsV o w rows := by
    unfold bears
    simp only [Option.bind_some]
    refine Ok.bind (Ok.forB (fun k (s : List (Int × Int) × Int) => (rows.take k).all (rowB o) = true ∧ (∀ b, getD s.1 b 0 = borneV (rows.take k) b) ∧ s.2 = ((rows.take k).map (·.2)).sum ∧ (s.1.map (·.1)).Nodup ∧ ∀ x ∈ s.1.map (·.1), x ∈ o)
      (fun r : Int => r = -1 ∧ rows.all (rowB o) = false) ⟨rfl, fun b => rfl, rfl, .nil, fun _ h => absurd h (by simp)⟩ ?_) ?_
    · rintro i ⟨m, wh⟩ r er ⟨a1, a2, a3, a4, a5⟩
      have rm := List.mem_of_getElem? er
      have rl := hr r rm
      simp only at a2 a3 a4 a5
      have fin : rowB o r = false → rows.all (rowB o) = false := fun z => by
        cases q : rows.all (rowB o) with
        | false => rfl
        | true => rw [List.all_eq_true.mp q r rm] at z; cases z
      have tst : (if decide (r.2 < 1) = true then some true else ((are_in o r.1).bind fun x9 => some !x9).bind fun x22 => if x22 = true then some true else ((lc? (fun _ : Int × Int => some true) (fun a16 : Int × Int => some (decide (a16.1 ≤ a16.2))) (r.1.zip (cut r.1 (some 1) none))).bind fun x21 => some (x21.any id))) = some (!rowB o r) := by
        rw [are_in_ok rl]
        rw [lc_map (f' := fun p : Int × Int => decide (p.1 ≤ p.2)) (by rw [List.length_zip]; omega) fun _ _ => rfl]
        simp only [Option.bind_some, PU.cut_from _ (show (0 : Int) ≤ 1 by decide)]
        rw [show (1 : Int).toNat = 1 from rfl, any_fall]
        unfold rowB
        by_cases c : r.2 < 1
        · have : ¬ 1 ≤ r.2 := by omega
          simp [c, this]
        · have : 1 ≤ r.2 := by omega
          cases standB o r.1 <;> simp [c, this]
      simp only [tst, Option.bind_some]
      cases c : rowB o r with
      | false => exact .pure (.inr ⟨_, rfl, rfl, fin c⟩)
      | true =>
        simp only [Bool.not_true, Bool.false_eq_true, if_false]
        obtain ⟨r1, r2, r3⟩ := rowB_parts c
        have nd := fall_nodup r3
        have mo := standB_mem r2
        refine Ok.bind (Ok.forS (fun j (m' : List (Int × Int)) => (∀ b, getD m' b 0 = getD m b 0 + if b ∈ r.1.take j then r.2 else 0) ∧ (m'.map (·.1)).Nodup ∧ ∀ x ∈ m'.map (·.1), x ∈ o) ⟨fun b => by simp, a4, a5⟩ ?_) ?_
        · rintro j m' b eb ⟨b1, b2, b3⟩
          have bo := mo b (List.mem_of_getElem? eb)
          have ml := keys_len b2 b3
          have pd : putD? m' b (getD m' b 0 + r.2) = some (putM m' b (getD m' b 0 + r.2)) := by
            unfold putD?; rw [if_pos (by omega)]
          simp only [pd, Option.bind_some]
          obtain ⟨k1, k2⟩ := put_keys (k := b) (v := getD m' b 0 + r.2) b2
          refine .pure ⟨fun x => ?_, k1, fun x hx => ?_⟩
          · rw [getD_put, take_snoc eb]
            have nb : b ∉ r.1.take j := fun z => by
              obtain ⟨q, hq⟩ := List.mem_iff_getElem?.mp z
              have ql : q < j := by
                have := (List.getElem?_eq_some_iff.mp hq).1
                rw [List.length_take] at this; omega
              rw [List.getElem?_take, if_pos ql] at hq
              have hjl := (List.getElem?_eq_some_iff.mp eb).1
              have := (List.getElem_inj (h₀ := (List.getElem?_eq_some_iff.mp hq).1) (h₁ := hjl) nd).mp (by rw [(List.getElem?_eq_some_iff.mp hq).2, (List.getElem?_eq_some_iff.mp eb).2])
              omega
            by_cases d : x = b
            · subst d
              rw [if_pos rfl, b1 x]
              simp [nb]
            · rw [if_neg d, b1 x]
              have : (x ∈ r.1.take j ++ [b]) ↔ x ∈ r.1.take j := by simp [d]
              simp only [this]
          · rcases k2 x hx with e | e
            · rw [e]; exact bo
            · exact b3 x e
        · rintro m' ⟨b1, b2, b3⟩
          refine .pure (.inl ⟨_, rfl, ?_, fun b => ?_, ?_, b2, b3⟩)
          · rw [take_snoc er, List.all_append, a1]; simp [c]
          · rw [take_snoc er, borneV_append, borneV_one, ← a2 b, b1 b, List.take_length]
          · rw [take_snoc er, List.map_append, List.sum_append, ← a3]; simp
    · rintro r (⟨⟨m, wh⟩, rfl, a1, a2, a3, a4, a5⟩ | ⟨x, rfl, rfl, a1⟩)
      · simp only [Rr.goR]
        simp only [List.take_length] at a1 a2 a3
        rw [lc_map (f' := fun b => decide (getD m b 0 < W w b)) (by omega) fun b hb => by rw [h.w hb]; rfl]
        simp only [Option.bind_some]
        have e : (o.map fun b => decide (getD m b 0 < W w b)).any id = !o.all fun b => decide (W w b ≤ borneV rows b) := by
          rw [List.any_map, List.all_eq_not_any_not, Bool.not_not]
          congr 1
          funext b
          show decide _ = !decide _
          rw [a2 b]
          by_cases d : borneV rows b < W w b
          · have : ¬ W w b ≤ borneV rows b := by omega
            simp [d, this]
          · have : W w b ≤ borneV rows b := by omega
            simp [d, this]
        rw [e]
        unfold bearsV
        rw [a1, Bool.true_and]
        cases o.all fun b => decide (W w b ≤ borneV rows b) with
        | true => exact .pure a3
        | false => exact .pure rfl
      · refine .pure ?_
        unfold bearsV
        rw [a1]; rfl
  obtain ⟨x, e, rfl⟩ := this
  exact e
theorem law_bears_ok {o w : List Int} {rows : List (List Int × Int)} (h : Bks o w) (hw : w.length ≤ 1000) (hr : ∀ r ∈ rows, r.1.length < 60) : _law_bears o w rows = some (bearsV o w rows) := by
  have hle := h.le
  have : Ok (_law_bears o w rows) fun x => x = bearsV o w rows := by
    unfold _law_bears
    simp only [Option.bind_some]
    have rp : rep? [(0 : Int)] (w.length : Int) = some (List.replicate w.length 0) := by
      unfold rep?
      rw [if_pos ⟨by omega, by simp; omega⟩]
      simp
    simp only [rp, Option.bind_some]
    refine Ok.bind (Ok.forB (fun k (s : List Int × Int) => (rows.take k).all (rowB o) = true ∧ s.1.length = w.length ∧ (∀ b ∈ o, W s.1 b = borneV (rows.take k) b) ∧ s.2 = ((rows.take k).map (·.2)).sum)
      (fun r : Int => r = -1 ∧ rows.all (rowB o) = false) ⟨rfl, by simp, fun b hb => ?_, rfl⟩ ?_) ?_
    · have := h.rg b hb
      show W (List.replicate w.length 0) b = 0
      unfold W
      rw [List.getElem?_replicate]
      split <;> rfl
    · rintro i ⟨m, wh⟩ r er ⟨a1, a0, a2, a3⟩
      have rm := List.mem_of_getElem? er
      have rl := hr r rm
      simp only at a0 a2 a3
      have fin : rowB o r = false → rows.all (rowB o) = false := fun z => by
        cases q : rows.all (rowB o) with
        | false => rfl
        | true => rw [List.all_eq_true.mp q r rm] at z; cases z
      have ss : sset? r.1 = some (sset r.1) := by unfold sset?; rw [if_pos rl]
      have tst : (if decide (r.2 < 1) = true then some true else ((_law_stand o r.1).bind fun x9 => some !x9).bind fun x22 => if x22 = true then some true else some (!decide (r.1 = (sset r.1).reverse))) = some (!rowB o r) := by
        rw [law_stand_ok rl, sset_fall]
        simp only [Option.bind_some]
        unfold rowB
        by_cases c : r.2 < 1
        · have : ¬ 1 ≤ r.2 := by omega
          simp [c, this]
        · have : 1 ≤ r.2 := by omega
          cases standB o r.1 <;> simp [c, this]
      simp only [ss, Option.bind_some, tst]
      cases c : rowB o r with
      | false => exact .pure (.inr ⟨_, rfl, rfl, fin c⟩)
      | true =>
        simp only [Bool.not_true, Bool.false_eq_true, if_false]
        obtain ⟨r1, r2, r3⟩ := rowB_parts c
        have nd := fall_nodup r3
        have mo := standB_mem r2
        refine Ok.bind (Ok.forS (fun j (m' : List Int) => m'.length = w.length ∧ ∀ b ∈ o, W m' b = W m b + if b ∈ r.1.take j then r.2 else 0) ⟨a0, fun b _ => by simp⟩ ?_) ?_
        · rintro j m' b eb ⟨b0, b1⟩
          have bo := mo b (List.mem_of_getElem? eb)
          have rg := h.rg b bo
          have ga : atI m' b = some (W m' b) := atI_W rg.1 (by omega)
          have st : seti? m' b (W m' b + r.2) = some (m'.set b.toNat (W m' b + r.2)) := by
            unfold seti? ixN
            rw [if_pos rg.1, if_pos (by omega)]; rfl
          simp only [ga, st, Option.bind_some]
          refine .pure ⟨by simp [b0], fun x hx => ?_⟩
          have rx := h.rg x hx
          have nb : b ∉ r.1.take j := fun z => by
            obtain ⟨q, hq⟩ := List.mem_iff_getElem?.mp z
            have ql : q < j := by
              have := (List.getElem?_eq_some_iff.mp hq).1
              rw [List.length_take] at this; omega
            rw [List.getElem?_take, if_pos ql] at hq
            have hjl := (List.getElem?_eq_some_iff.mp eb).1
            have := (List.getElem_inj (h₀ := (List.getElem?_eq_some_iff.mp hq).1) (h₁ := hjl) nd).mp (by rw [(List.getElem?_eq_some_iff.mp hq).2, (List.getElem?_eq_some_iff.mp eb).2])
            omega
          rw [take_snoc eb]
          by_cases d : x = b
          · subst d
            have : W (m'.set x.toNat (W m' x + r.2)) x = W m' x + r.2 := by
              unfold W
              rw [List.getElem?_set_self (by omega)]; rfl
            rw [this, b1 x hx]
            simp [nb]
          · have ne : b.toNat ≠ x.toNat := by omega
            have : W (m'.set b.toNat (W m' b + r.2)) x = W m' x := by
              unfold W
              rw [List.getElem?_set_ne ne]
            rw [this, b1 x hx]
            have : (x ∈ r.1.take j ++ [b]) ↔ x ∈ r.1.take j := by simp [d]
            simp only [this]
        · rintro m' ⟨b0, b1⟩
          refine .pure (.inl ⟨_, rfl, ?_, b0, fun b hb => ?_, ?_⟩)
          · rw [take_snoc er, List.all_append, a1]; simp [c]
          · rw [take_snoc er, borneV_append, borneV_one, ← a2 b hb, b1 b hb, List.take_length]
          · rw [take_snoc er, List.map_append, List.sum_append, ← a3]; simp
    · rintro r (⟨⟨m, wh⟩, rfl, a1, a0, a2, a3⟩ | ⟨x, rfl, rfl, a1⟩)
      · simp only [Rr.goR]
        simp only [List.take_length] at a1 a2 a3
        simp only at a0
        rw [lc_map (f' := fun b => decide (W w b ≤ borneV rows b)) (by omega) fun b hb => by
          have rg := h.rg b hb
          rw [h.w hb, atI_W rg.1 (by omega), a2 b hb]; rfl]
        simp only [Option.bind_some]
        have e : (o.map fun b => decide (W w b ≤ borneV rows b)).all id = o.all fun b => decide (W w b ≤ borneV rows b) := by rw [List.all_map]; rfl
        rw [e]
        unfold bearsV
        rw [a1, Bool.true_and]
        cases o.all fun b => decide (W w b ≤ borneV rows b) with
        | true => exact .pure a3
        | false => exact .pure rfl
      · refine .pure ?_
        unfold bearsV
        rw [a1]; rfl
  obtain ⟨x, e, rfl⟩ := this
  exact e
end Fw

set_option Elab.async false
set_option linter.all false
/-! MD: the told rows bear just what the staying ones weigh. -/
namespace PU
open PySem L2
theorem rng1_succ (k : Nat) : rng 1 ((k : Int) + 1 + 1) = rng 1 ((k : Int) + 1) ++ [(k : Int) + 1] := by
  unfold rng
  rw [show ((k : Int) + 1 + 1 - 1).toNat = k + 1 by omega, show ((k : Int) + 1 - 1).toNat = k by omega, List.range_succ, List.map_append]
  congr 1
  simp
  omega
theorem count_rng {a c : Int} (ha : 0 ≤ a) (hc : a ≤ c) : ∀ k : Nat, (((rng 1 ((k : Int) + 1)).countP fun s => decide (a < s) && decide (s ≤ c) : Nat) : Int) = min c k - min a k
  | 0 => by
    have : rng 1 (((0 : Nat) : Int) + 1) = [] := by simp [rng]
    rw [this]
    simp
    omega
  | k + 1 => by
    have ih := count_rng ha hc k
    rw [show (((k + 1 : Nat) : Int) + 1) = (k : Int) + 1 + 1 by omega, rng1_succ, List.countP_append]
    by_cases d1 : a < (k : Int) + 1 <;> by_cases d2 : (k : Int) + 1 ≤ c <;> simp [d1, d2] <;> omega
theorem tall_max {o w l : List Int} {t : List (Int × Int)} {m : Int} (h : Bks o w) (tl : t.length = o.length) (ht : ∀ i, i < o.length → RowOk o w t i) (hm : maxL ([0] ++ t.map (·.1)) = some m) (hl : Best o w l) : m = sumW w l := by
  obtain ⟨mm, mt⟩ := maxL_spec hm
  have up : sumW w l ≤ m := by
    have hs := hl.sub
    rw [show o = o.take o.length by simp] at hs
    rcases tall_top h ht o.length (Nat.le_refl _) l hl.inc hs with e | ⟨i, l2, h5, h6, h7⟩
    · subst e
      rw [sumW_nil]
      exact mt 0 (by simp)
    · have := mt (th t i) (List.mem_append_right _ (List.mem_map_of_mem (f := Prod.fst) (List.mem_of_getElem? (th_at (t := t) (i := i) (by omega)))))
      omega
  have lo : m ≤ sumW w l := by
    rcases List.mem_append.mp mm with mm | mm
    · rw [List.mem_singleton.mp mm]
      exact (h.sub hl.sub).sum_pos
    · obtain ⟨i, hi⟩ := List.mem_iff_getElem?.mp mm
      have il : i < t.length := by
        have := (List.getElem?_eq_some_iff.mp hi).1
        simpa using this
      rw [List.getElem?_map, th_at il] at hi
      have hi := Option.some.inj hi
      simp only at hi
      obtain ⟨l', h1, h2, h3⟩ := tall_list ht (i + 1) i (by omega) (by omega)
      have := hl.top _ (h1.trans (List.take_sublist _ _)) h2
      omega
  omega
theorem enum_pw (o : List Int) : (enumL o).Pairwise fun p q => p.1 < q.1 := by
  rw [List.pairwise_iff_getElem]
  intro i j hi hj hij
  have h1 := (enumL_at (List.getElem?_eq_getElem hi)).1
  have h2 := (enumL_at (List.getElem?_eq_getElem hj)).1
  rw [h1, h2]
  omega
theorem stand_sub {o l : List Int} (hd : o.Nodup) (hs : l.Sublist o) : standB o l = true := by
  unfold standB rise
  have h1 : (l.all fun b => decide (b ∈ o)) = true := List.all_eq_true.mpr fun b hb => by simpa using hs.subset hb
  have h2 : (l.map fun b => (ix o b : Int)).Pairwise (· < ·) := by
    rw [List.pairwise_map]
    exact ((ix_rise hd).sublist hs).imp fun h => by omega
  rw [h1, decide_eq_true h2]; rfl
theorem mem_rowAt {o w : List Int} {t : List (Int × Int)} {s : Int} (hd : o.Nodup) {i : Nat} (hi : i < o.length) : ob o i ∈ rowAt o w t s ↔ th t i - W w (ob o i) < s ∧ s ≤ th t i := by
  unfold rowAt
  rw [List.mem_map]
  constructor
  · rintro ⟨q, hq, e⟩
    obtain ⟨h1, h2⟩ := List.mem_filter.mp hq
    obtain ⟨j, hj, rfl⟩ := mem_of_enum h1
    have ej : ob o j = ob o i := e
    have : j = i := by
      have a1 := ob_at hj
      have a2 := ob_at hi
      rw [ej, ← a2] at a1
      exact (List.getElem?_inj hj hd).mp a1
    subst this
    have h2 : (decide (th t (((j : Nat) : Int)).toNat - W w (ob o j) < s) && decide (s ≤ th t (((j : Nat) : Int)).toNat)) = true := h2
    rw [Int.toNat_natCast] at h2
    simpa using h2
  · intro h
    refine ⟨((i : Int), ob o i), List.mem_filter.mpr ⟨?_, ?_⟩, rfl⟩
    · have hlt : i < (enumL o).length := by rw [enumL_len]; exact hi
      obtain ⟨a1, a2⟩ := enumL_at (List.getElem?_eq_getElem hlt)
      have : (enumL o)[i] = ((i : Int), ob o i) := Prod.ext a1 (ob_of a2).symm
      rw [← this]
      exact List.getElem_mem _
    · show (decide (th t (((i : Nat) : Int)).toNat - W w (ob o i) < s) && decide (s ≤ th t (((i : Nat) : Int)).toNat)) = true
      rw [Int.toNat_natCast]
      simpa using h
theorem rowAt_sub (o w : List Int) (t : List (Int × Int)) (s : Int) : (rowAt o w t s).Sublist o := by
  have h : (((enumL o).filter (inRow w t s)).map (·.2)).Sublist ((enumL o).map (·.2)) := List.Sublist.map _ List.filter_sublist
  rw [enumL_snd] at h
  exact h
theorem rowAt_fall {o w : List Int} {t : List (Int × Int)} (h : Bks o w) (ht : ∀ i, i < o.length → RowOk o w t i) (s : Int) : fall (rowAt o w t s) = true := by
  unfold fall rowAt
  refine decide_eq_true ?_
  rw [List.pairwise_map]
  refine ((enum_pw o).filter _).imp_of_mem fun {p q} hp hq hlt => ?_
  obtain ⟨p1, p2⟩ := List.mem_filter.mp hp
  obtain ⟨q1, q2⟩ := List.mem_filter.mp hq
  obtain ⟨i, hi, rfl⟩ := mem_of_enum p1
  obtain ⟨j, hj, rfl⟩ := mem_of_enum q1
  have p2 : (decide (th t (((i : Nat) : Int)).toNat - W w (ob o i) < s) && decide (s ≤ th t (((i : Nat) : Int)).toNat)) = true := p2
  have q2 : (decide (th t (((j : Nat) : Int)).toNat - W w (ob o j) < s) && decide (s ≤ th t (((j : Nat) : Int)).toNat)) = true := q2
  rw [Int.toNat_natCast] at p2 q2
  simp only [Bool.and_eq_true, decide_eq_true_eq] at p2 q2
  simp only at hlt
  obtain ⟨_, r2, _⟩ := ht j hj
  show ob o i > ob o j
  refine Classical.byContradiction fun c => ?_
  have ne : ob o i ≠ ob o j := fun e => by
    have a1 := ob_at hi
    have a2 := ob_at hj
    rw [e, ← a2] at a1
    have := (List.getElem?_inj hi h.nd).mp a1
    omega
  have := r2 i (by omega) (by omega)
  omega
theorem borne_rows {b : Int} : ∀ {p : List (List Int × Int)}, (∀ r ∈ p, 1 ≤ r.2) → borneV p b = (((rowsOf p).countP fun r => decide (b ∈ r) : Nat) : Int)
  | [], _ => rfl
  | r :: p, h => by
    have ih := borne_rows (b := b) (p := p) fun r hr => h r (List.mem_cons_of_mem _ hr)
    have h1 := h r List.mem_cons_self
    have e : rowsOf (r :: p) = List.replicate r.2.toNat r.1 ++ rowsOf p := by unfold rowsOf; rw [List.flatMap_cons]
    rw [e, List.countP_append, show r :: p = [r] ++ p from rfl, borneV_append, borneV_one, ih, List.countP_replicate]
    by_cases c : b ∈ r.1 <;> simp [c] <;> omega
theorem sum_rows : ∀ {p : List (List Int × Int)}, (∀ r ∈ p, 1 ≤ r.2) → (p.map (·.2)).sum = ((rowsOf p).length : Int)
  | [], _ => rfl
  | r :: p, h => by
    have ih := sum_rows (p := p) fun r hr => h r (List.mem_cons_of_mem _ hr)
    have h1 := h r List.mem_cons_self
    have e : rowsOf (r :: p) = List.replicate r.2.toNat r.1 ++ rowsOf p := by unfold rowsOf; rw [List.flatMap_cons]
    rw [e, List.length_append, List.length_replicate, List.map_cons, List.sum_cons, ih]
    omega
theorem mem_rows {p : List (List Int × Int)} {r : List Int × Int} (hr : r ∈ p) (h : 1 ≤ r.2) : r.1 ∈ rowsOf p := by
  unfold rowsOf
  refine List.mem_flatMap.mpr ⟨r, hr, List.mem_replicate.mpr ⟨by omega, rfl⟩⟩
/-- the paper bears each book's weight, and comes to what the staying ones weigh -/
theorem told_bears {o w l : List Int} {p : List (List Int × Int)} (h : Bks o w) (hp : Papered o w p) (hb : Best o w l) : bearsV o w p = sumW w l := by
  obtain ⟨⟨t, m, tl, ht, hm, hr⟩, po⟩ := hp
  have em := tall_max h tl ht hm hb
  have m0 : 0 ≤ m := (maxL_spec hm).2 0 (by simp)
  obtain ⟨k, rfl⟩ : ∃ k : Nat, m = k := ⟨m.toNat, by omega⟩
  have a1 : p.all (rowB o) = true := List.all_eq_true.mpr fun r rp => by
    have r1 := po r rp
    have := mem_rows rp r1
    rw [hr] at this
    obtain ⟨s, _, e⟩ := List.mem_map.mp this
    unfold rowB
    rw [decide_eq_true r1, ← e, stand_sub h.nd (rowAt_sub o w t s), rowAt_fall h ht s]; rfl
  have a2 : (o.all fun b => decide (W w b ≤ borneV p b)) = true := List.all_eq_true.mpr fun b hbo => by
    refine decide_eq_true ?_
    obtain ⟨i, hi⟩ := List.mem_iff_getElem?.mp hbo
    have il := (List.getElem?_eq_some_iff.mp hi).1
    have eb := ob_of hi
    rw [borne_rows po, hr, List.countP_map]
    have e : ((fun r : List Int => decide (b ∈ r)) ∘ rowAt o w t) = fun s => decide (th t i - W w b < s) && decide (s ≤ th t i) := by
      funext s
      show decide (b ∈ rowAt o w t s) = _
      have := mem_rowAt (w := w) (t := t) (s := s) h.nd il
      rw [eb] at this
      by_cases c : b ∈ rowAt o w t s
      · have d := this.mp c
        rw [decide_eq_true c, decide_eq_true d.1, decide_eq_true d.2]; rfl
      · rw [decide_eq_false c]
        by_cases d1 : th t i - W w b < s <;> by_cases d2 : s ≤ th t i
        · exact absurd (this.mpr ⟨d1, d2⟩) c
        · simp [d2]
        · simp [d1]
        · simp [d1]
    rw [e]
    obtain ⟨r1, r2, r3⟩ := ht i il
    rw [eb] at r2 r3
    have low : 0 ≤ th t i - W w b := by
      rcases r3 with ⟨_, r3⟩ | ⟨j, hj, _, _, r3⟩
      · omega
      · obtain ⟨q1, _, _⟩ := ht j (by omega)
        have := h.pos (ob_mem (o := o) (i := j) (by omega))
        omega
    have hi2 : th t i ≤ k := (maxL_spec hm).2 (th t i) (List.mem_append_right _ (List.mem_map_of_mem (f := Prod.fst) (List.mem_of_getElem? (th_at (t := t) (i := i) (by omega)))))
    have wp := h.pos hbo
    rw [count_rng low (by omega) k]
    omega
  unfold bearsV
  rw [a1, a2, if_pos (show (true && true) = true from rfl), sum_rows po, hr, List.length_map, ← em]
  simp [rng]
end PU

set_option Elab.async false
set_option linter.all false
/-! MR: the round. -/
namespace PU
open PySem L2
theorem fmod_sub {x b n : Int} (hx : 0 ≤ x) (hx' : x < n) (hb : 0 ≤ b) (hb' : b < n) : (x - b).fmod n = if b ≤ x then x - b else x - b + n := by
  rw [Int.fmod_eq_emod_of_nonneg _ (by omega)]
  split
  · exact Int.emod_eq_of_lt (by omega) (by omega)
  · rw [← Int.add_emod_right]
    exact Int.emod_eq_of_lt (by omega) (by omega)
theorem fmod_add {y b n : Int} (hx : 0 ≤ y) (hx' : y < n) (hb : 0 ≤ b) (hb' : b < n) : (y + b).fmod n = if y + b < n then y + b else y + b - n := by
  rw [Int.fmod_eq_emod_of_nonneg _ (by omega)]
  split
  · exact Int.emod_eq_of_lt (by omega) (by omega)
  · rw [← Int.sub_emod_right]
    exact Int.emod_eq_of_lt (by omega) (by omega)
def dn_ (n b x : Int) : Int := (x - b).fmod n
def up_ (n b y : Int) : Int := (y + b).fmod n
def cy (o : List Int) (b : Int) : List Int := o.drop (ix o b) ++ o.take (ix o b)
def rd (o : List Int) (b : Int) : List Int := (cy o b).map (dn_ o.length b)
def wf (w : List Int) (b : Int) : List Int := w.drop b.toNat ++ w.take b.toNat
theorem cy_perm (o : List Int) (b : Int) : (cy o b).Perm o := by
  unfold cy
  refine List.perm_append_comm.trans ?_
  rw [List.take_append_drop]
theorem wf_W {w : List Int} {b x : Int} (hx : 0 ≤ x) (hx' : x < w.length) (hb : 0 ≤ b) (hb' : b < w.length) : W (wf w b) (dn_ w.length b x) = W w x := by
  unfold W wf dn_
  rw [fmod_sub hx hx' hb hb', List.getElem?_append, List.length_drop]
  split
  · rw [if_pos (by omega), List.getElem?_drop, show b.toNat + (x - b).toNat = x.toNat by omega]
  · rw [if_neg (by omega), List.getElem?_take, if_pos (by omega), show (x - b + (w.length : Int)).toNat - (w.length - b.toNat) = x.toNat by omega]
theorem up_dn {n b x : Int} (hx : 0 ≤ x) (hx' : x < n) (hb : 0 ≤ b) (hb' : b < n) : up_ n b (dn_ n b x) = x := by
  unfold up_ dn_
  rw [fmod_sub hx hx' hb hb']
  split
  · rw [fmod_add (by omega) (by omega) hb hb', if_pos (by omega)]; omega
  · rw [fmod_add (by omega) (by omega) hb hb', if_neg (by omega)]; omega
theorem dn_rg {n b x : Int} (hx : 0 ≤ x) (hx' : x < n) (hb : 0 ≤ b) (hb' : b < n) : 0 ≤ dn_ n b x ∧ dn_ n b x < n := by
  unfold dn_
  rw [fmod_sub hx hx' hb hb']
  split <;> omega
theorem up_rg {n b x : Int} (hx : 0 ≤ x) (hx' : x < n) (hb : 0 ≤ b) (hb' : b < n) : 0 ≤ up_ n b x ∧ up_ n b x < n := by
  unfold up_
  rw [fmod_add hx hx' hb hb']
  split <;> omega
theorem dn_up {n b x : Int} (hx : 0 ≤ x) (hx' : x < n) (hb : 0 ≤ b) (hb' : b < n) : dn_ n b (up_ n b x) = x := by
  unfold up_ dn_
  rw [fmod_add hx hx' hb hb']
  split
  · rw [fmod_sub (by omega) (by omega) hb hb', if_pos (by omega)]; omega
  · rw [fmod_sub (by omega) (by omega) hb hb', if_neg (by omega)]; omega
theorem wf_len {w : List Int} {b : Int} (hb : 0 ≤ b) (hb' : b < w.length) : (wf w b).length = w.length := by
  unfold wf; rw [List.length_append, List.length_drop, List.length_take]; omega
theorem rd_row {o w n : List Int} (h : Row o w n) {b : Int} (hb : b ∈ o) : Row (rd o b) (wf w b) [] := by
  have rb := h.mem.mp hb
  have wl := h.wl
  have le : (rd o b).length = o.length := by unfold rd; rw [List.length_map, (cy_perm o b).length_eq]
  have mw : ∀ x ∈ wf w b, x ∈ w := fun x hx => by
    rcases List.mem_append.mp hx with hx | hx
    · exact List.drop_subset _ _ hx
    · exact List.take_subset _ _ hx
  refine ⟨?_, by rw [le]; exact h.ne, by rw [le]; exact h.le, by rw [le, wf_len rb.1 (by omega)]; exact wl, fun x hx => h.lo x (mw x hx), fun x hx => h.hi x (mw x hx), .nil, fun _ h => absurd h (by simp)⟩
  rw [le]
  have nd : (rd o b).Nodup := by
    unfold rd
    rw [List.Nodup, List.pairwise_map]
    refine ((cy_perm o b).nodup_iff.mpr h.bks.nd).imp_of_mem fun {x y} hx hy hne e => hne ?_
    have rx := h.mem.mp ((cy_perm o b).mem_iff.mp hx)
    have ry := h.mem.mp ((cy_perm o b).mem_iff.mp hy)
    rw [← up_dn rx.1 rx.2 rb.1 rb.2, ← up_dn ry.1 ry.2 rb.1 rb.2, e]
  rw [List.perm_ext_iff_of_nodup nd (rng_nodup _ _)]
  intro x
  rw [mem_rng]
  unfold rd
  rw [List.mem_map]
  refine ⟨fun ⟨y, h1, h2⟩ => ?_, fun hx => ⟨up_ o.length b x, ?_, dn_up hx.1 hx.2 rb.1 rb.2⟩⟩
  · have := h.mem.mp ((cy_perm o b).mem_iff.mp h1)
    rw [← h2]
    exact dn_rg this.1 this.2 rb.1 rb.2
  · exact (cy_perm o b).mem_iff.mpr (h.mem.mpr (up_rg hx.1 hx.2 rb.1 rb.2))
theorem rd_sum {o w n : List Int} (h : Row o w n) {b : Int} (hb : b ∈ o) {l : List Int} (hl : ∀ x ∈ l, x ∈ o) : sumW (wf w b) (l.map (dn_ o.length b)) = sumW w l := by
  have rb := h.mem.mp hb
  have wl := h.wl
  unfold sumW
  rw [List.map_map]
  congr 1
  refine List.map_congr_left fun x hx => ?_
  have := h.mem.mp (hl x hx)
  show W (wf w b) (dn_ o.length b x) = W w x
  rw [← wl]
  exact wf_W this.1 (by omega) rb.1 (by omega)
theorem up_sum {o w n : List Int} (h : Row o w n) {b : Int} (hb : b ∈ o) {l : List Int} (hl : ∀ x ∈ l, 0 ≤ x ∧ x < o.length) : sumW w (l.map (up_ o.length b)) = sumW (wf w b) l := by
  have rb := h.mem.mp hb
  have e := rd_sum h hb (l := l.map (up_ o.length b)) fun x hx => by
    obtain ⟨y, hy, rfl⟩ := List.mem_map.mp hx
    have := hl y hy
    exact h.mem.mpr (up_rg this.1 this.2 rb.1 rb.2)
  rw [← e, List.map_map]
  congr 1
  have : l.map (dn_ o.length b ∘ up_ o.length b) = l.map id := List.map_congr_left fun x hx => dn_up (hl x hx).1 (hl x hx).2 rb.1 rb.2
  rw [this, List.map_id]
theorem sub_from {o l : List Int} {b : Int} (hd : o.Nodup) (h : (b :: l).Sublist o) : (b :: l).Sublist (o.drop (ix o b)) := by
  have hb : b ∈ o := h.subset List.mem_cons_self
  rw [← List.take_append_drop (ix o b) o] at h
  obtain ⟨l1, l2, e, h1, h2⟩ := List.sublist_append_iff.mp h
  cases l1 with
  | nil => rw [e]; exact h2
  | cons c l1 =>
    rw [List.cons_append] at e
    cases e
    have hm : b ∈ o.take (ix o b) := h1.subset List.mem_cons_self
    obtain ⟨i, hi⟩ := List.mem_iff_getElem?.mp hm
    rw [List.getElem?_take] at hi
    split at hi
    · rename_i hlt
      have hio : i < o.length := (List.getElem?_eq_some_iff.mp hi).1
      have : o.idxOf b = i := by
        have g := (List.getElem?_eq_some_iff.mp hi).2
        rw [← g]
        exact hd.idxOf_getElem i hio
      unfold ix at hlt
      omega
    · cases hi
/-- read round from its first book a rising list rises -/
theorem rd_best {o w n l : List Int} (h : Row o w n) (hs : l.Sublist o) (hi : l.Pairwise (· < ·)) (hne : l ≠ []) : ∃ b ∈ o, ∀ s, Best (rd o b) (wf w b) s → sumW w l ≤ sumW (wf w b) s := by
  cases l with
  | nil => exact absurd rfl hne
  | cons b l =>
    have hb : b ∈ o := hs.subset List.mem_cons_self
    have rb := h.mem.mp hb
    refine ⟨b, hb, fun s hS => ?_⟩
    have s1 : ((b :: l).map (dn_ o.length b)).Sublist (rd o b) := by
      unfold rd cy
      exact ((sub_from h.bks.nd hs).trans (List.sublist_append_left _ _)).map _
    have i1 : ((b :: l).map (dn_ o.length b)).Pairwise (· < ·) := by
      rw [List.pairwise_map]
      refine hi.imp_of_mem fun {x y} hx hy hxy => ?_
      have lo : ∀ x ∈ b :: l, b ≤ x := fun x hx => by
        rcases List.mem_cons.mp hx with e | hx
        · omega
        · have := (List.pairwise_cons.mp hi).1 x hx; omega
      have rx := h.mem.mp (hs.subset hx)
      have ry := h.mem.mp (hs.subset hy)
      unfold dn_
      rw [fmod_sub rx.1 rx.2 rb.1 rb.2, fmod_sub ry.1 ry.2 rb.1 rb.2, if_pos (lo x hx), if_pos (lo y hy)]
      omega
    have := hS.top _ s1 i1
    rw [rd_sum h hb fun x hx => hs.subset hx] at this
    exact this
theorem papered_len {o w : List Int} {p : List (List Int × Int)} (hb : Bks o w) (h9 : ∀ x ∈ w, x ≤ 9) (h : Papered o w p) : p.length ≤ 1000 ∧ ∀ r ∈ p, r.1.length ≤ o.length := by
  obtain ⟨⟨t, m, t1, t2, t3, t4⟩, po⟩ := h
  have h0 : p.length ≤ (rowsOf p).length := by
    clear t4
    induction p with
    | nil => simp
    | cons r p ih =>
      have := ih fun x hx => po x (List.mem_cons_of_mem _ hx)
      have := po r List.mem_cons_self
      have e : rowsOf (r :: p) = List.replicate r.2.toNat r.1 ++ rowsOf p := by unfold rowsOf; rw [List.flatMap_cons]
      rw [e, List.length_append, List.length_replicate, List.length_cons]
      omega
  have hm9 : m ≤ 1000 := by
    rcases List.mem_append.mp (maxL_spec t3).1 with mm | mm
    · rw [List.mem_singleton.mp mm]; omega
    · obtain ⟨i, hi⟩ := List.mem_iff_getElem?.mp mm
      have il : i < t.length := by
        have := (List.getElem?_eq_some_iff.mp hi).1
        simpa using this
      rw [List.getElem?_map, th_at il] at hi
      have hi := Option.some.inj hi
      simp only at hi
      have := tall_le hb h9 t2 (i + 1) i (by omega) (by omega)
      have := hb.le
      omega
  refine ⟨?_, fun r hr => ?_⟩
  · rw [t4, List.length_map, PU.rng_len] at h0
    omega
  · have hin : r.1 ∈ rowsOf p := by
      unfold rowsOf
      rw [List.mem_flatMap]
      refine ⟨r, hr, ?_⟩
      rw [List.mem_replicate]
      have := po r hr
      exact ⟨by omega, rfl⟩
    rw [t4] at hin
    obtain ⟨s, _, e⟩ := List.mem_map.mp hin
    rw [← e]
    unfold rowAt
    rw [List.length_map]
    refine Nat.le_trans (List.length_filter_le _ _) ?_
    rw [enumL_len]
    exact Nat.le_refl _
end PU
namespace Fw
open PySem L2 PU
theorem read_ok {o w n : List Int} (h : Row o w n) {b : Int} (hb : b ∈ o) : read_from o b = some (rd o b) := by
  unfold read_from
  have hle := h.le
  have hp := cy_perm o b
  have hlt := List.idxOf_lt_length_of_mem hb
  simp only [Option.bind_some, idx_of hb]
  rw [cut_from _ (by omega), cut_to _ (by omega), Int.toNat_natCast]
  simp only [cat_ok (show (o.drop (o.idxOf b)).length + (o.take (o.idxOf b)).length ≤ 100000 by rw [List.length_drop, List.length_take]; omega), Option.bind_some]
  refine lc_map (f' := dn_ o.length b) (by have := hp.length_eq; unfold cy ix at this; rw [this]; omega) fun x hx => ?_
  unfold fmod? dn_
  rw [if_pos (by omega)]
theorem wfrom_ok {w : List Int} {b : Int} (hb : 0 ≤ b) (hb' : b < w.length) (hl : w.length ≤ 100000) : weights_from w b = some (wf w b) := by
  unfold weights_from
  simp only [Option.bind_some]
  rw [cut_from _ hb, cut_to _ hb]
  exact cat_ok (by rw [List.length_drop, List.length_take]; omega)
theorem stays_ok {o w n : List Int} (h : Row o w n) : Ok (round_stays o w) fun ss => ss.length = o.length ∧ ∀ i : Nat, i < o.length → ∃ s, Best (rd o i) (wf w i) s ∧ ss[i]? = some (s.map (up_ o.length i)) := by
  unfold round_stays
  have hle := h.le
  have wl := h.wl
  simp only [Option.bind_some, rng_ok (a := (o.length : Int)) (by omega) (by omega)]
  refine Ok.bind (Ok.forS (fun k (ss : List (List Int)) => ss.length = k ∧ ∀ i : Nat, i < k → ∃ s, Best (rd o i) (wf w i) s ∧ ss[i]? = some (s.map (up_ o.length i))) ⟨rfl, fun i hi => by omega⟩ ?_) fun ss hs => by
    rw [rng0_len] at hs; exact .pure hs
  rintro k ss b eb ⟨hl, hs⟩
  obtain ⟨b1, b2⟩ := rng_at eb
  simp only [Int.zero_add] at b1 b2
  subst b1
  have hb : (k : Int) ∈ o := h.mem.mpr (by omega)
  have hr := rd_row h hb
  obtain ⟨s, e1, q1⟩ := staying_ok hr.bks
  have sl := q1.sub.length_le
  have rl : (rd o k).length = o.length := by unfold rd; rw [List.length_map, (cy_perm o k).length_eq]
  have e2 : lc? (fun _ => some true) (fun a15 : Int => fmod? (a15 + (k : Int)) (o.length : Int)) s = some (s.map (up_ o.length k)) := lc_map (by omega) fun x _ => by
    unfold fmod? up_
    rw [if_pos (by omega)]
  simp only [read_ok h hb, wfrom_ok (w := w) (b := (k : Int)) (by omega) (by omega) (by omega), e1, e2, Option.bind_some, PU.app_ok (show ss.length < 100000 by omega)]
  refine .pure ⟨by simp [hl], fun i hi => ?_⟩
  by_cases c : i = k
  · subst c
    exact ⟨s, q1, by rw [← hl]; simp⟩
  · obtain ⟨s', q, e⟩ := hs i (by omega)
    exact ⟨s', q, by rw [List.getElem?_append_left (by omega)]; exact e⟩
theorem check_all_ok {o w n : List Int} (h : Row o w n) {m : Int} (hm : o.length ≤ m) : check_all o w m = some () := by
  unfold check_all check_weights are_books is_between is_whole
  simp only [Option.bind_some]
  obtain ⟨hp, hne, hle, hwl, hlo, hhi, hnr, hnb⟩ := h
  have e1 : lc? (fun _ => some true) (fun _ : Int => some true) o = some (o.map fun _ => true) := lc_map (by omega) fun _ _ => rfl
  have e2 : lc? (fun _ => some true) (fun x9 : Int => if (1 : Int) ≤ x9 then some (decide (x9 ≤ 9)) else some false) w = some (w.map fun _ => true) := lc_map (by omega) fun x hx => by
    rw [if_pos (hlo x hx)]
    have := hhi x hx
    simp [this]
  have e5 : sort? o = some (rng 0 o.length) := by
    unfold sort?
    rw [if_pos (by omega)]
    congr 1
    exact sorted_eq ((isort_perm o).trans hp) (isort_sorted o) ((rng_rise _ _).imp fun h => by omega)
  have all1 : ∀ l : List Int, (l.map fun _ => true).all id = true := fun l => by rw [List.all_map, List.all_eq_true]; intro _ _; rfl
  have c1 : (1 : Int) ≤ (o.length : Int) := by omega
  have c3 : (w.length : Int) = (o.length : Int) := by omega
  simp only [e1, e5, rng_ok (a := (o.length : Int)) (by omega) (by omega), c1, hm, c3, decide_true, decide_false, Bool.not_true, Bool.not_false, Bool.false_eq_true, if_true, if_false, Option.bind_some, all1, e2, decide_eq_true_eq]
/-- on a round shelf no rising list of the row weighs more -/
theorem round_ok {o w n : List Int} (h : Row o w n) (h10 : o.length ≤ 10) : Ok (round_least o w) fun r => ∃ s p, r = .round s p ∧ (∀ x ∈ s, x ∈ o) ∧ s.length ≤ 10 ∧ ∀ l : List Int, l.Sublist o → l.Pairwise (· < ·) → sumW w l ≤ sumW w s := by
  unfold round_least
  have wl := h.wl
  have hne := h.ne
  obtain ⟨ss, e1, sl, hs⟩ := stays_ok h
  simp only [Option.bind_some, check_all_ok h (show ((o.length : Nat) : Int) ≤ 10 by omega), e1, rng_ok (a := (o.length : Int)) (by omega) (by omega)]
  have mem : ∀ i : Nat, i < o.length → (i : Int) ∈ o := fun i hi => h.mem.mpr (by omega)
  have sin : ∀ s ∈ ss, (∀ x ∈ s, x ∈ o) ∧ s.length ≤ 10 := fun s hS => by
    obtain ⟨i, hi⟩ := List.mem_iff_getElem?.mp hS
    have il : i < o.length := by rw [← sl]; exact (List.getElem?_eq_some_iff.mp hi).1
    obtain ⟨s', q, e⟩ := hs i il
    rw [e] at hi
    cases hi
    have rl : (rd o i).length = o.length := by unfold rd; rw [List.length_map, (cy_perm o i).length_eq]
    refine ⟨fun x hx => ?_, by rw [List.length_map]; have := q.sub.length_le; omega⟩
    obtain ⟨y, hy, rfl⟩ := List.mem_map.mp hx
    have ry := (rd_row h (mem i il)).mem.mp (q.sub.subset hy)
    exact h.mem.mpr (up_rg ry.1 (by omega) (by omega) (by omega))
  refine Ok.bind (Ok.forS (fun k (ps : List (List (List Int × Int))) => ps.length = k ∧ ∀ p ∈ ps, p.length ≤ 1000 ∧ ∀ r ∈ p, r.1.length ≤ 1000) ⟨rfl, fun _ h => absurd h (by simp)⟩ ?_) ?_
  · rintro k ps b eb ⟨pl, hp⟩
    obtain ⟨b1, b2⟩ := rng_at eb
    simp only [Int.zero_add] at b1 b2
    subst b1
    have hb : (k : Int) ∈ o := mem k (by omega)
    have hr := rd_row h hb
    have rl : (rd o k).length = o.length := by unfold rd; rw [List.length_map, (cy_perm o k).length_eq]
    obtain ⟨rows, e2, q2⟩ := paper_ok hr.bks hr.hi
    obtain ⟨l1, l2⟩ := papered_len hr.bks hr.hi q2
    simp only [read_ok h hb, wfrom_ok (w := w) (b := (k : Int)) (by omega) (by omega) (by omega), e2, Option.bind_some]
    have e3 : lc? (fun _ => some true) (fun a21 : List Int × Int => (lc? (fun _ => some true) (fun a22 : Int => fmod? (a22 + (k : Int)) (o.length : Int)) a21.1).bind fun x29 => some (x29, a21.2)) rows = some (rows.map fun r => (r.1.map (up_ o.length k), r.2)) := lc_map (by omega) fun r hr => by
      rw [lc_map (f' := up_ o.length k) (by have := l2 r hr; omega) fun x _ => by
        unfold fmod? up_
        rw [if_pos (by omega)]]
      rfl
    simp only [e3, Option.bind_some, PU.app_ok (show ps.length < 100000 by omega)]
    refine .pure ⟨by simp [pl], fun p hp' => ?_⟩
    rcases List.mem_append.mp hp' with hp' | hp'
    · exact hp p hp'
    · rw [List.mem_singleton.mp hp']
      refine ⟨by rw [List.length_map]; exact l1, fun r hr => ?_⟩
      obtain ⟨r', h1, rfl⟩ := List.mem_map.mp hr
      have := l2 r' h1
      simp only [List.length_map]
      omega
  · rintro ps ⟨pl, hp⟩
    rw [rng0_len] at pl
    have e2 : lc? (fun _ => some true) (fun a35 : List Int => weight_of w a35) ss = some (ss.map (sumW w)) := lc_map (by omega) fun s hS => weight_ok (fun b hb => by
      have := h.mem.mp ((sin s hS).1 b hb)
      omega) (by have := (sin s hS).2; omega)
    obtain ⟨m, hm⟩ : ∃ m, maxL (ss.map (sumW w)) = some m := by
      cases ss with
      | nil => simp at sl; omega
      | cons a as => exact ⟨_, rfl⟩
    obtain ⟨m1, m2⟩ := maxL_spec hm
    have e3 : lc? (fun a42 : List Int => (weight_of w a42).bind fun x47 => some (decide (x47 = m))) (fun a42 => some a42) ss = some (ss.filter fun s => decide (sumW w s = m)) := lc_filter (by omega) fun s hS => by
      rw [weight_ok (fun b hb => by
        have := h.mem.mp ((sin s hS).1 b hb)
        omega) (by have := (sin s hS).2; omega)]
      rfl
    simp only [e2, hm, e3, Option.bind_some]
    obtain ⟨s0, h0, h00⟩ := List.mem_map.mp m1
    have hf : s0 ∈ ss.filter fun s => decide (sumW w s = m) := List.mem_filter.mpr ⟨h0, by simpa using h00⟩
    generalize hg : ss.filter (fun s => decide (sumW w s = m)) = good at hf
    obtain ⟨s, e4, hsg⟩ := Ok.at (xs := good) (i := 0) (by decide) (by have := List.length_pos_of_mem hf; omega)
    simp only [e4, Option.bind_some]
    rw [← hg] at hsg
    obtain ⟨k1, k2⟩ := List.mem_filter.mp hsg
    have k2 : sumW w s = m := by simpa using k2
    unfold mk_Round
    simp only [Option.bind_some]
    rw [lc_map (f' := fun x => x) (by omega) fun p hp' => by
      rw [lc_map (f' := fun x => x) (by have := (hp p hp').1; omega) fun r _ => rfl]
      simp]
    simp only [List.map_id', Option.bind_some]
    refine .pure ⟨s, ps, rfl, (sin s k1).1, (sin s k1).2, fun l hl hi => ?_⟩
    rw [k2]
    cases l with
    | nil =>
      obtain ⟨s', q', e'⟩ := hs 0 (by omega)
      have := m2 _ (List.mem_map_of_mem (List.mem_of_getElem? e'))
      rw [up_sum h (mem 0 (by omega)) fun x hx => by
        have rl : (rd o (0 : Nat)).length = o.length := by unfold rd; rw [List.length_map, (cy_perm o _).length_eq]
        have ry := (rd_row h (mem 0 (by omega))).mem.mp (q'.sub.subset hx)
        omega] at this
      have := ((rd_row h (mem 0 (by omega))).bks.sub q'.sub).sum_pos
      rw [sumW_nil]
      omega
    | cons b l =>
      obtain ⟨b', hb', key⟩ := rd_best h hl hi (by simp)
      have rb := h.mem.mp hb'
      obtain ⟨i, rfl⟩ : ∃ i : Nat, b' = i := ⟨b'.toNat, by omega⟩
      obtain ⟨s', q', e'⟩ := hs i (by omega)
      have a1 := key s' q'
      have a2 := m2 _ (List.mem_map_of_mem (List.mem_of_getElem? e'))
      rw [up_sum h hb' fun x hx => by
        have rl : (rd o (i : Nat)).length = o.length := by unfold rd; rw [List.length_map, (cy_perm o _).length_eq]
        have ry := (rd_row h hb').mem.mp (q'.sub.subset hx)
        omega] at a2
      omega
end Fw

set_option Elab.async false
set_option linter.all false
/-! ME: what a Least, a Stuck shows, whatever its fields; what least tells is so. -/
namespace PU
open PySem L2
def leastV (o w n stay : List Int) (rows : List (List Int × Int)) : Bool := (standB o stay && rise stay) && ((n.all fun b => decide (b ∈ stay)) && decide (bearsV (free o n) w rows = sumW w stay))
def stuckV (o n : List Int) (a b : Int) : Bool := (decide (a ∈ n) && decide (b ∈ n)) && (decide (a < b) && decide (ix o b < ix o a))
end PU
namespace Fw
open PySem L2 PU
theorem least_shows_ok {o w n stay : List Int} {rows : List (List Int × Int)} (h : Row o w n) (hs : stay.length ≤ 100000) (hr : ∀ r ∈ rows, r.1.length ≤ 100000) : Least_shows (.least stay rows) o w n = some (leastV o w n stay rows) := by
  have hB := h.bks
  have hle := h.le
  have hnl := h.nl
  unfold Least_shows
  simp only [Ans.stay?, Ans.rows?, Option.bind_some, is_staying_ok hs]
  rw [lc_map (f' := fun x => decide (x ∈ stay)) (by omega) fun _ _ => rfl]
  simp only [Option.bind_some]
  have e : (n.map fun x => decide (x ∈ stay)).all id = n.all fun b => decide (b ∈ stay) := by rw [List.all_map]; rfl
  rw [e]
  unfold leastV
  cases c : standB o stay && rise stay with
  | false => rfl
  | true =>
    cases d : n.all fun b => decide (b ∈ stay) with
    | false => rfl
    | true =>
      have so := standB_mem (Bool.and_eq_true_iff.mp c).1
      simp only [Bool.not_true, Bool.false_eq_true, if_false, free_ok h.nb (show o.length ≤ 100000 by omega) (show n.length ≤ 100000 by omega), Option.bind_some, bears_ok (hB.sub (free_sub o n)) hr, weight_ok (fun b hb => hB.rg b (so b hb)) hs, Bool.true_and]
theorem law_is_least_ok {o w n stay : List Int} {rows : List (List Int × Int)} (h : Row o w n) (hs : stay.length < 60) (hr : ∀ r ∈ rows, r.1.length < 60) : _law_is_least o w n stay rows = some (leastV o w n stay rows) := by
  have hB := h.bks
  have hle := h.le
  have hnl := h.nl
  have hwl := h.wl
  unfold _law_is_least
  have ss : sset? stay = some (sset stay) := by unfold sset?; rw [if_pos hs]
  simp only [Option.bind_some, ss, sset_rise, law_stand_ok hs]
  rw [lc_map (f' := fun x => !decide (x ∈ stay)) (by omega) fun _ _ => rfl]
  simp only [Option.bind_some]
  have e : (n.map fun x => !decide (x ∈ stay)).any id = !n.all fun b => decide (b ∈ stay) := by
    rw [List.any_map, List.all_eq_not_any_not, Bool.not_not]; rfl
  rw [e]
  unfold leastV
  cases c1 : rise stay with
  | false => rw [Bool.and_false]; rfl
  | true =>
    cases c2 : standB o stay with
    | false => rfl
    | true =>
      cases d : n.all fun b => decide (b ∈ stay) with
      | false => rfl
      | true =>
        have so := standB_mem c2
        have ws : lc? (fun _ : Int => some true) (fun a : Int => atI w a) stay = some (stay.map (W w)) := lc_map (by omega) fun b hb => hB.w (so b hb)
        simp only [Bool.not_true, Bool.false_eq_true, if_false, law_free_ok h.nb (show o.length ≤ 100000 by omega) (show n.length ≤ 100000 by omega), Option.bind_some, law_bears_ok (hB.sub (free_sub o n)) (by omega) hr, ws, Bool.true_and]
        rfl
theorem stuck_shows_ok {o w n : List Int} {a b : Int} (h : Row o w n) : Stuck_shows (.stuck a b) o w n = some (stuckV o n a b) := by
  unfold Stuck_shows stuckV
  simp only [Ans.one?, Ans.other?, Option.bind_some]
  by_cases c1 : a ∈ n
  · by_cases c2 : b ∈ n
    · by_cases c3 : a < b
      · have : ¬ b ≤ a := by omega
        simp only [c1, c2, c3, this, decide_true, decide_false, Bool.not_true, Bool.false_eq_true, if_false, idx_of (h.nb a c1), idx_of (h.nb b c2), Option.bind_some, Bool.true_and, Bool.and_self]
        show some (decide (((ix o b : Nat) : Int) < ((ix o a : Nat) : Int))) = _
        congr 1
        by_cases d : ix o b < ix o a
        · have : ((ix o b : Nat) : Int) < ((ix o a : Nat) : Int) := by omega
          simp [d, this]
        · have : ¬ ((ix o b : Nat) : Int) < ((ix o a : Nat) : Int) := by omega
          simp [d, this]
      · have : b ≤ a := by omega
        simp [c1, c2, c3, this]
    · simp [c1, c2]
  · simp [c1]
theorem law_is_stuck_ok {o w n : List Int} {a b : Int} (h : Row o w n) : _law_is_stuck o n a b = some (stuckV o n a b) := by
  unfold _law_is_stuck stuckV
  simp only [Option.bind_some]
  by_cases c1 : a ∈ n
  · by_cases c2 : b ∈ n
    · by_cases c3 : a < b
      · simp only [c1, c2, c3, decide_true, if_true, idx_of (h.nb a c1), idx_of (h.nb b c2), Option.bind_some, Bool.true_and, Bool.and_self]
        show some (decide (((ix o b : Nat) : Int) < ((ix o a : Nat) : Int))) = _
        congr 1
        by_cases d : ix o b < ix o a
        · have : ((ix o b : Nat) : Int) < ((ix o a : Nat) : Int) := by omega
          simp [d, this]
        · have : ¬ ((ix o b : Nat) : Int) < ((ix o a : Nat) : Int) := by omega
          simp [d, this]
      · simp [c1, c2, c3]
    · simp [c1, c2]
  · simp [c1]
/-- what least tells -/
structure ToldL (o w n : List Int) (r : Ans) : Prop where
  ex : (NoClash o n ∧ ∃ l p, r = .least l p ∧ leastV o w n l p = true ∧ l.length ≤ 24 ∧ p.length ≤ 1000 ∧ p ≠ [] ∧ (∀ q ∈ p, q.1.length ≤ 24) ∧ Best (free o n) w l ∧ bearsV (free o n) w p = sumW w l) ∨
    ∃ a b, r = .stuck a b ∧ stuckV o n a b = true ∧ a ∈ n ∧ b ∈ n ∧ a < b ∧ sr o a b = false
theorem least_told {o w n : List Int} (h : Row o w n) : ∃ r, least o w n = some r ∧ ToldL o w n r := by
  have hB := h.bks
  have hle := h.le
  obtain ⟨r, e, ho⟩ := least_ok h
  refine ⟨r, e, ?_⟩
  rcases ho with ⟨nc, l, p, rfl, hb, hp, _, _⟩ | ⟨a, b, rfl, ha, hb, hlt, hs⟩
  · have hF := hB.sub (free_sub o n)
    have h9 : ∀ x ∈ w, x ≤ 9 := h.hi
    have tb := told_bears hF hp hb
    obtain ⟨pl, pr⟩ := papered_len hF h9 hp
    have fl : (free o n).length ≤ 24 := Nat.le_trans (free_sub o n).length_le hle
    have lo : l.Sublist o := hb.sub.trans (free_sub o n)
    have ll : l.length ≤ 24 := Nat.le_trans lo.length_le hle
    have fne : free o n ≠ [] := by
      cases n with
      | nil =>
        rw [free_nil]
        intro z; have := h.ne; rw [z] at this; simp at this
      | cons b n =>
        intro z
        have := nailed_free nc h.nb (b := b) List.mem_cons_self
        rw [z] at this; cases this
    have lpos : 0 < sumW w l := by
      obtain ⟨x, hx⟩ := List.exists_mem_of_ne_nil _ fne
      have := hb.top [x] (List.singleton_sublist.mpr hx) (List.pairwise_singleton _ _)
      rw [sumW_cons, sumW_nil] at this
      have := hF.pos hx
      omega
    have pne : p ≠ [] := fun z => by
      subst z
      have : bearsV (free o n) w [] ≤ 0 := by
        unfold bearsV
        split
        · exact Int.le_refl _
        · decide
      omega
    refine ⟨.inl ⟨nc, l, p, rfl, ?_, ll, pl, pne, fun q hq => Nat.le_trans (pr q hq) fl, hb, tb⟩⟩
    unfold leastV
    have n1 : (n.all fun b => decide (b ∈ l)) = true := List.all_eq_true.mpr fun b hbn => by simpa using best_nailed hB nc h.nb hb b hbn
    rw [stand_sub hB.nd lo, n1, decide_eq_true tb, show rise l = true from decide_eq_true hb.inc]; rfl
  · refine ⟨.inr ⟨a, b, rfl, ?_, ha, hb, hlt, hs⟩⟩
    have : ix o b < ix o a := by
      unfold sr at hs
      have h1 : (decide (ix o a < ix o b) == decide (a < b)) = false := (Bool.or_eq_false_iff.mp hs).2
      have h2 : ix o a ≠ ix o b := fun z => by
        have := ix_inj (h.nb a ha) z
        omega
      rw [decide_eq_true hlt] at h1
      have : ¬ ix o a < ix o b := fun z => by rw [decide_eq_true z] at h1; cases h1
      omega
    unfold stuckV
    simp [ha, hb, hlt, this]
/-- a row with a book that is none bears nothing -/
theorem bent_bears {o w : List Int} {r : List Int × Int} {p : List (List Int × Int)} {b : Int} (hb : b ∉ o) (hr : b ∈ r.1) : bearsV o w (r :: p) = -1 := by
  unfold bearsV
  have : rowB o r = false := by
    cases c : rowB o r with
    | false => rfl
    | true => exact absurd (standB_mem (rowB_parts c).2.1 b hr) hb
  rw [List.all_cons, this]; rfl
end Fw

set_option Elab.async false
set_option maxRecDepth 100000
set_option maxHeartbeats 4000000
set_option linter.all false
namespace Fw
open PySem L2 PU
open PU.Enc
def L_Least_shows (v_self : Ans) (v_order : List (Int)) (v_weights : List (Int)) (v_nailed : List (Int)) : Option (Bool) :=
  (((((((((some v_order)).bind fun x2 => ((((some v_self)).bind fun x1 => Ans.stayL? x1)).bind fun x3 => is_staying x2 x3)).bind fun x4 => some (!x4))).bind fun x13 => if x13 = true then some true else (((((((some v_nailed)).bind fun x9 => lc? (fun (a5 : Int) => (some true)) (fun (a5 : Int) => (((some a5)).bind fun x7 => ((((some v_self)).bind fun x6 => Ans.stayL? x6)).bind fun x8 => some (decide (x7 ∈ x8)))) x9)).bind fun x11 => some (x11.all id))).bind fun x12 => some (!x12)))).bind fun b14 => if b14 = true then (some false) else (((((((some v_order)).bind fun x21 => ((some v_nailed)).bind fun x22 => free_ones x21 x22)).bind fun x24 => ((some v_weights)).bind fun x25 => ((((some v_self)).bind fun x23 => Ans.rows? x23)).bind fun x26 => bears x24 x25 x26)).bind fun x30 => ((((some v_weights)).bind fun x28 => ((((some v_self)).bind fun x27 => Ans.stayL? x27)).bind fun x29 => weight_of x28 x29)).bind fun x31 => some (decide (x30 = x31))))
def L_ms_shows_3 (c : Nat) : (Ans) → (List (Int)) → (List (Int)) → (List (Int)) → Option (Bool) :=
  if c = 0 then L_Least_shows else Stuck_shows
def _law_right (v_order_here : List (Int)) (v_weights_here : List (Int)) (v_nailed_here : List (Int)) (v_stay : List (Int)) (v_rows : List ((List (Int)) × (Int))) : Option (Bool) :=
  (((((((some v_stay)).bind fun x8 => some x8)).bind fun x15 => ((((some v_rows)).bind fun x13 => lc? (fun (a9 : (List (Int)) × (Int)) => (some true)) (fun (a9 : (List (Int)) × (Int)) => (((((some a9.1)).bind fun x10 => some x10)).bind fun x11 => ((some a9.2)).bind fun x12 => some (x11, x12))) x13)).bind fun x16 => some (Du.mk x15 x16))).bind fun (v_handed_50 : Du (List (Int)) (List ((List (Int)) × (Int)))) => (((((((some v_handed_50)).bind fun x52 => some x52.a)).bind fun x54 => ((((some v_handed_50)).bind fun x53 => some x53.b)).bind fun x55 => mk_Least x54 x55)).bind fun (v_built_51 : Ans) => ((((some ([] : List (Int)))).bind fun x57 => ((some ([] : List ((List (Int)) × (Int))))).bind fun x58 => mk_Least x57 x58)).bind fun (v_again_56 : Ans) => (((some v_handed_50).map Du.a).bind fun l61 => ((some (0 : Int))).bind fun x63 => (app? l61 x63).bind fun l64 => ((fun c60 => (some v_handed_50).bind fun l59 => some { l59 with a := c60 }) l64).bind fun (v_handed_62 : Du (List (Int)) (List ((List (Int)) × (Int)))) => ((((some v_handed_62).map Du.b).bind fun l71 => (mapO (fun q134 : (List (Int)) × (Int) => ((fun (v_books_69 : List (Int)) => ((some v_books_69).bind fun l73 => ((some (0 : Int))).bind fun x75 => (app? l73 x75).bind fun l76 => (some l76).bind fun (v_books_74 : List (Int)) => (some v_books_74))) q134.1).bind fun x135 => some (x135, q134.2)) l71).bind (fun c66 => (some v_handed_62).bind fun l65 => some { l65 with b := c66 })).bind fun (v_handed_70 : Du (List (Int)) (List ((List (Int)) × (Int)))) => (((some v_handed_70).map Du.b).bind fun l79 => ((((some ([] : List (Int)))).bind fun x81 => ((some (1 : Int))).bind fun x82 => some (x81, x82))).bind fun x85 => (app? l79 x85).bind fun l86 => ((fun c78 => (some v_handed_70).bind fun l77 => some { l77 with b := c78 }) l86).bind fun (v_handed_80 : Du (List (Int)) (List ((List (Int)) × (Int)))) => (((some v_again_56).bind Ans.stayL?).bind fun l89 => ((some v_stay)).bind fun x91 => (cat? l89 x91).bind fun l92 => ((fun c88 => (some v_again_56).bind fun b87 => (Ans.setStay? b87 c88).bind some) l92).bind fun (v_again_90 : Ans) => ((Ans.rows? v_again_90).bind fun l95 => ((some v_rows)).bind fun x97 => (cat? l95 x97).bind fun l98 => (Ans.setRows? v_again_90 l98).bind fun (v_again_96 : Ans) => (((((some v_order_here)).bind fun x99 => ((some v_weights_here)).bind fun x100 => ((some v_nailed_here)).bind fun x101 => ((some v_stay)).bind fun x102 => ((some v_rows)).bind fun x103 => _law_is_least x99 x100 x101 x102 x103)).bind fun (v_due_104 : Bool) => (((((((((((some v_built_51)).bind fun x111 => Ans.stayL? x111)).bind fun x113 => ((((some v_built_51)).bind fun x112 => Ans.rows? x112)).bind fun x114 => some (Du.mk x113 x114))).bind fun x117 => ((((some v_stay)).bind fun x115 => ((some v_rows)).bind fun x116 => some (Du.mk x115 x116))).bind fun x118 => some (!decide (x117 = x118)))).bind fun x126 => if x126 = true then some true else (((((((some v_built_51)).bind fun x122 => ((some v_order_here)).bind fun x119 => ((some v_weights_here)).bind fun x120 => ((some v_nailed_here)).bind fun x121 => pick [0, 1] (Ans.cls x122) (L_ms_shows_3 (Ans.cls x122) x122 x119 x120 x121))).bind fun x123 => ((some v_due_104)).bind fun x124 => _law_says x123 x124)).bind fun x125 => some (!x125)))).bind fun b127 => if b127 = true then (some false) else (((((some v_again_96)).bind fun x131 => ((some v_order_here)).bind fun x128 => ((some v_weights_here)).bind fun x129 => ((some v_nailed_here)).bind fun x130 => pick [0, 1] (Ans.cls x131) (L_ms_shows_3 (Ans.cls x131) x131 x128 x129 x130))).bind fun x132 => ((some v_due_104)).bind fun x133 => _law_says x132 x133))))))))))
def _law_bent (v_row : List (Int)) (v_at : Int) (v_book : Int) : Option (List (List (Int))) :=
  (((((((some v_row)).bind fun x2 => some x2.reverse)).bind fun x41 => ((((((some v_row)).bind fun x8 => ((((some v_row)).bind fun x5 => ((((((some (1 : Int))).bind fun x3 => some (-x3))).bind fun x4 => some (some x4))).bind fun x6 => ((some (none : Option Int))).bind fun x7 => some (cut x5 x6 x7))).bind fun x9 => cat? x8 x9)).bind fun x39 => ((((((some v_row)).bind fun x12 => ((((some v_book)).bind fun x10 => ((some ([] : List (Int)))).bind fun l11 => some (x10 :: l11))).bind fun x13 => cat? x12 x13)).bind fun x37 => ((((((((some v_book)).bind fun x14 => ((some ([] : List (Int)))).bind fun l15 => some (x14 :: l15))).bind fun x16 => ((some v_row)).bind fun x17 => cat? x16 x17)).bind fun x35 => ((((some ([] : List (Int)))).bind fun x33 => ((((((some v_row)).bind fun x21 => ((((((some (1 : Int))).bind fun x18 => some (-x18))).bind fun x19 => ((some ([] : List (Int)))).bind fun l20 => some (x19 :: l20))).bind fun x22 => cat? x21 x22)).bind fun x31 => ((((((some v_row)).bind fun x27 => ((((((some (10 : Int))).bind fun x23 => ((some (20 : Int))).bind fun x24 => pow? x23 x24)).bind fun x25 => ((some ([] : List (Int)))).bind fun l26 => some (x25 :: l26))).bind fun x28 => cat? x27 x28)).bind fun x29 => ((some ([] : List (List (Int))))).bind fun l30 => some (x29 :: l30))).bind fun l32 => some (x31 :: l32))).bind fun l34 => some (x33 :: l34))).bind fun l36 => some (x35 :: l36))).bind fun l38 => some (x37 :: l38))).bind fun l40 => some (x39 :: l40))).bind fun l42 => some (x41 :: l42))).bind fun (v_found_43 : List (List (Int))) => ((((((some v_row)).bind fun x44 => ((some ([] : List (Int)))).bind fun x45 => some (!decide (x44 = x45)))).bind fun b46 => if b46 = true then (((((some v_at)).bind fun x48 => ((((some v_row)).bind fun x47 => some (x47.length : Int))).bind fun x49 => fmod? x48 x49)).bind fun (v_at_50 : Int) => (((((some v_found_43)).bind fun x96 => ((((((((((some ([] : List (Int)))).bind fun x75 => ((((((some v_book)).bind fun x53 => ((some ([] : List (Int)))).bind fun l54 => some (x53 :: l54))).bind fun x73 => ((((((((((some v_row)).bind fun x57 => ((some v_at_50)).bind fun x58 => atI x57 x58)).bind fun x59 => ((some (1 : Int))).bind fun x60 => some (x59 + x60))).bind fun x61 => ((some ([] : List (Int)))).bind fun l62 => some (x61 :: l62))).bind fun x71 => ((((((((((some v_row)).bind fun x63 => ((some v_at_50)).bind fun x64 => atI x63 x64)).bind fun x65 => ((some (1 : Int))).bind fun x66 => some (x65 - x66))).bind fun x67 => ((some ([] : List (Int)))).bind fun l68 => some (x67 :: l68))).bind fun x69 => ((some ([] : List (List (Int))))).bind fun l70 => some (x69 :: l70))).bind fun l72 => some (x71 :: l72))).bind fun l74 => some (x73 :: l74))).bind fun l76 => some (x75 :: l76))).bind fun x77 => some (Tu.mk x77))).bind fun x78 => some x78.xs)).bind fun x94 => lc? (fun (a79 : List (Int)) => (some true)) (fun (a79 : List (Int)) => (((((((some v_row)).bind fun x81 => ((some (none : Option Int))).bind fun x82 => ((((some v_at_50)).bind fun x80 => some (some x80))).bind fun x83 => some (cut x81 x82 x83))).bind fun x84 => ((some a79)).bind fun x85 => cat? x84 x85)).bind fun x92 => ((((some v_row)).bind fun x89 => ((((((some v_at_50)).bind fun x86 => ((some (1 : Int))).bind fun x87 => some (x86 + x87))).bind fun x88 => some (some x88))).bind fun x90 => ((some (none : Option Int))).bind fun x91 => some (cut x89 x90 x91))).bind fun x93 => cat? x92 x93)) x94)).bind fun x97 => cat? x96 x97)).bind fun (v_found_98 : List (List (Int))) => (some v_found_98))) else (some v_found_43) : Option ((List (List (Int))))).bind fun s99 => (some s99)))
def _law_lots (v_stay : List (Int)) (v_rows : List ((List (Int)) × (Int))) (v_whole : Int) (v_many : Int) : Option (List ((List (Int)) × (List ((List (Int)) × (Int))))) :=
  (((((some v_whole)).bind fun x1 => ((some v_many)).bind fun x2 => fmod? x1 x2)).bind fun (v_book_30 : Int) => ((((((some v_stay)).bind fun x3 => ((some v_rows)).bind fun x4 => some (x3, x4))).bind fun x28 => ((((((some v_stay)).bind fun x5 => ((some ([] : List ((List (Int)) × (Int))))).bind fun x6 => some (x5, x6))).bind fun x26 => ((((((some ([] : List (Int)))).bind fun x7 => ((some v_rows)).bind fun x8 => some (x7, x8))).bind fun x24 => ((((((some v_stay)).bind fun x10 => ((((some v_rows)).bind fun x9 => some x9.reverse)).bind fun x11 => some (x10, x11))).bind fun x22 => ((((((some v_stay)).bind fun x18 => ((((some v_rows)).bind fun x16 => ((((((some ([] : List (Int)))).bind fun x12 => ((some (1 : Int))).bind fun x13 => some (x12, x13))).bind fun x14 => ((some ([] : List ((List (Int)) × (Int))))).bind fun l15 => some (x14 :: l15))).bind fun x17 => cat? x16 x17)).bind fun x19 => some (x18, x19))).bind fun x20 => ((some ([] : List ((List (Int)) × (List ((List (Int)) × (Int))))))).bind fun l21 => some (x20 :: l21))).bind fun l23 => some (x22 :: l23))).bind fun l25 => some (x24 :: l25))).bind fun l27 => some (x26 :: l27))).bind fun l29 => some (x28 :: l29))).bind fun (v_lots_here_31 : List ((List (Int)) × (List ((List (Int)) × (Int))))) => ((((((((((((some v_whole)).bind fun x35 => ((some (24 : Int))).bind fun x36 => fdiv? x35 x36)).bind fun x40 => ((((((some (1 : Int))).bind fun x37 => some (-x37))).bind fun x38 => ((some ([] : List (Int)))).bind fun l39 => some (x38 :: l39))).bind fun l41 => some (x40 :: l41))).bind fun x42 => some (Tu.mk x42))).bind fun x43 => some x43.xs)).bind fun l166 => forS (fun (s32 : (List ((List (Int)) × (List ((List (Int)) × (Int)))))) (a44 : Int) => (((((some s32)).bind fun x53 => ((((((some v_stay)).bind fun x45 => ((some a44)).bind fun x46 => ((some v_book_30)).bind fun x47 => _law_bent x45 x46 x47)).bind fun x51 => lc? (fun (a48 : List (Int)) => (some true)) (fun (a48 : List (Int)) => (((some a48)).bind fun x49 => ((some v_rows)).bind fun x50 => some (x49, x50))) x51)).bind fun x54 => cat? x53 x54)).bind fun (v_lots_here_55 : List ((List (Int)) × (List ((List (Int)) × (Int))))) => ((((((some v_rows)).bind fun x56 => ((some ([] : List ((List (Int)) × (Int))))).bind fun x57 => some (!decide (x56 = x57)))).bind fun b58 => if b58 = true then (((((some a44)).bind fun x60 => ((((some v_rows)).bind fun x59 => some (x59.length : Int))).bind fun x61 => fmod? x60 x61)).bind fun (v_spot_62 : Int) => (((((some v_rows)).bind fun x63 => ((some v_spot_62)).bind fun x64 => atI x63 x64)).bind fun (z65 : (List (Int)) × (Int)) => (((((((some z65.1)).bind fun x68 => ((((some v_whole)).bind fun x66 => ((some (7 : Int))).bind fun x67 => fdiv? x66 x67)).bind fun x69 => ((some v_book_30)).bind fun x70 => _law_bent x68 x69 x70)).bind fun x74 => lc? (fun (a71 : List (Int)) => (some true)) (fun (a71 : List (Int)) => (((some a71)).bind fun x72 => ((some z65.2)).bind fun x73 => some (x72, x73))) x74)).bind fun (v_some_76 : List ((List (Int)) × (Int))) => (((((some v_some_76)).bind fun x103 => ((((((((((((some z65.2)).bind fun x79 => ((some (1 : Int))).bind fun x80 => some (x79 + x80))).bind fun x94 => ((((((some z65.2)).bind fun x81 => ((some (1 : Int))).bind fun x82 => some (x81 - x82))).bind fun x92 => ((((some (0 : Int))).bind fun x90 => ((((((some (1 : Int))).bind fun x83 => some (-x83))).bind fun x88 => ((((((some (10 : Int))).bind fun x84 => ((some (20 : Int))).bind fun x85 => pow? x84 x85)).bind fun x86 => ((some ([] : List (Int)))).bind fun l87 => some (x86 :: l87))).bind fun l89 => some (x88 :: l89))).bind fun l91 => some (x90 :: l91))).bind fun l93 => some (x92 :: l93))).bind fun l95 => some (x94 :: l95))).bind fun x96 => some (Tu.mk x96))).bind fun x97 => some x97.xs)).bind fun x101 => lc? (fun (a98 : Int) => (some true)) (fun (a98 : Int) => (((some z65.1)).bind fun x99 => ((some a98)).bind fun x100 => some (x99, x100))) x101)).bind fun x104 => cat? x103 x104)).bind fun (v_some_105 : List ((List (Int)) × (Int))) => (((((some v_lots_here_55)).bind fun x127 => ((((some v_some_105)).bind fun x125 => lc? (fun (a106 : (List (Int)) × (Int)) => (some true)) (fun (a106 : (List (Int)) × (Int)) => (((some v_stay)).bind fun x123 => ((((((((some v_rows)).bind fun x108 => ((some (none : Option Int))).bind fun x109 => ((((some v_spot_62)).bind fun x107 => some (some x107))).bind fun x110 => some (cut x108 x109 x110))).bind fun x113 => ((((some a106)).bind fun x111 => ((some ([] : List ((List (Int)) × (Int))))).bind fun l112 => some (x111 :: l112))).bind fun x114 => cat? x113 x114)).bind fun x121 => ((((some v_rows)).bind fun x118 => ((((((some v_spot_62)).bind fun x115 => ((some (1 : Int))).bind fun x116 => some (x115 + x116))).bind fun x117 => some (some x117))).bind fun x119 => ((some (none : Option Int))).bind fun x120 => some (cut x118 x119 x120))).bind fun x122 => cat? x121 x122)).bind fun x124 => some (x123, x124))) x125)).bind fun x128 => cat? x127 x128)).bind fun (v_lots_here_129 : List ((List (Int)) × (List ((List (Int)) × (Int))))) => (((((some v_lots_here_129)).bind fun x162 => ((((((some v_stay)).bind fun x142 => ((((((some v_rows)).bind fun x131 => ((some (none : Option Int))).bind fun x132 => ((((some v_spot_62)).bind fun x130 => some (some x130))).bind fun x133 => some (cut x131 x132 x133))).bind fun x140 => ((((some v_rows)).bind fun x137 => ((((((some v_spot_62)).bind fun x134 => ((some (1 : Int))).bind fun x135 => some (x134 + x135))).bind fun x136 => some (some x136))).bind fun x138 => ((some (none : Option Int))).bind fun x139 => some (cut x137 x138 x139))).bind fun x141 => cat? x140 x141)).bind fun x143 => some (x142, x143))).bind fun x160 => ((((((some v_stay)).bind fun x156 => ((((((some v_rows)).bind fun x147 => ((some (none : Option Int))).bind fun x148 => ((((((some v_spot_62)).bind fun x144 => ((some (1 : Int))).bind fun x145 => some (x144 + x145))).bind fun x146 => some (some x146))).bind fun x149 => some (cut x147 x148 x149))).bind fun x154 => ((((some v_rows)).bind fun x151 => ((((some v_spot_62)).bind fun x150 => some (some x150))).bind fun x152 => ((some (none : Option Int))).bind fun x153 => some (cut x151 x152 x153))).bind fun x155 => cat? x154 x155)).bind fun x157 => some (x156, x157))).bind fun x158 => ((some ([] : List ((List (Int)) × (List ((List (Int)) × (Int))))))).bind fun l159 => some (x158 :: l159))).bind fun l161 => some (x160 :: l161))).bind fun x163 => cat? x162 x163)).bind fun (v_lots_here_164 : List ((List (Int)) × (List ((List (Int)) × (Int))))) => (some v_lots_here_164))))))) else (some v_lots_here_55) : Option ((List ((List (Int)) × (List ((List (Int)) × (Int))))))).bind fun s165 => (some s165)))) v_lots_here_31 l166).bind fun (s32 : (List ((List (Int)) × (List ((List (Int)) × (Int)))))) => (some s32)))
def law (v_script : Scr) : Option (Bool) :=
  (((((((some v_script)).bind fun x1 => ((some (63 : Int))).bind fun x2 => some (cut x1.ns none (some x2)))).bind fun x3 => some x3.sum)).bind fun (v_whole_4 : Int) => ((((((some (2 : Int))).bind fun x6 => rng? 0 x6)).bind fun l150 => forB (β := Bool) (fun (s5 : Unit) (a7 : Int) => (((((some v_script)).bind fun x15 => ((some a7)).bind fun x16 => ((((((((some v_whole_4)).bind fun x10 => ((some (16 : Int))).bind fun x11 => fmod? x10 x11)).bind fun x12 => ((some a7)).bind fun x13 => some (decide (x12 = x13)))).bind fun x14 => if x14 = true then (some (24 : Int)) else (some (10 : Int)))).bind fun x17 => _law_order x15 x16 x17)).bind fun (v_order_here_18 : List (Int)) => (((((some v_order_here_18)).bind fun x19 => some (x19.length : Int))).bind fun (v_many_20 : Int) => (((((some v_script)).bind fun x21 => ((some a7)).bind fun x22 => ((some v_many_20)).bind fun x23 => _law_weights x21 x22 x23)).bind fun (v_weights_here_27 : List (Int)) => ((((some v_script)).bind fun x24 => ((some a7)).bind fun x25 => ((some v_many_20)).bind fun x26 => _law_nailed x24 x25 x26)).bind fun (v_nailed_here_28 : List (Int)) => (((((some v_order_here_18)).bind fun x29 => ((some v_weights_here_27)).bind fun x30 => ((some v_nailed_here_28)).bind fun x31 => least x29 x30 x31)).bind fun (v_found_32 : Ans) => (((((((some v_found_32)).bind fun x33 => Ans.isi [0, 1] 1 x33)).bind fun x48 => if x48 = true then (((some ([] : List (Int)))).bind fun x40 => ((some ([] : List ((List (Int)) × (Int))))).bind fun x41 => some (x40, x41)) else (((((((some v_found_32)).bind fun x42 => Ans.stayL? x42)).bind fun x43 => some x43)).bind fun x46 => ((((((some v_found_32)).bind fun x44 => Ans.rows? x44)).bind fun x45 => some x45)).bind fun x47 => some (x46, x47)))).bind fun (z49 : (List (Int)) × (List ((List (Int)) × (Int)))) => ((((((some z49.1)).bind fun x53 => ((some z49.2)).bind fun x54 => ((((some v_whole_4)).bind fun x51 => ((some (5 : Int))).bind fun x52 => fdiv? x51 x52)).bind fun x55 => ((some v_many_20)).bind fun x56 => _law_lots x53 x54 x55 x56)).bind fun l66 => forB (β := Bool) (fun (s50 : Unit) (a57 : (List (Int)) × (List ((List (Int)) × (Int)))) => (((((((some v_order_here_18)).bind fun x58 => ((some v_weights_here_27)).bind fun x59 => ((some v_nailed_here_28)).bind fun x60 => ((some a57.1)).bind fun x61 => ((some a57.2)).bind fun x62 => _law_right x58 x59 x60 x61 x62)).bind fun x63 => some (!x63))).bind fun b64 => if b64 = true then ((some false)).bind (fun x65 => some (Rr.rt x65)) else (some (Rr.nx ())))) () l66).bind (Rr.goB fun (s50 : Unit) => (((((((some v_nailed_here_28)).bind fun x77 => ((((some v_nailed_here_28)).bind fun x74 => ((((some (1 : Int))).bind fun x73 => some (some x73))).bind fun x75 => ((some (none : Option Int))).bind fun x76 => some (cut x74 x75 x76))).bind fun x78 => listZip? x77 x78)).bind fun x98 => ((((((some (0 : Int))).bind fun x81 => ((((some v_many_20)).bind fun x79 => ((some (1 : Int))).bind fun x80 => some (x79 - x80))).bind fun x82 => some (x81, x82))).bind fun x96 => ((((((((some v_many_20)).bind fun x83 => ((some (1 : Int))).bind fun x84 => some (x83 - x84))).bind fun x85 => ((some (0 : Int))).bind fun x86 => some (x85, x86))).bind fun x94 => ((((((((some (1 : Int))).bind fun x87 => some (-x87))).bind fun x90 => ((((some (10 : Int))).bind fun x88 => ((some (20 : Int))).bind fun x89 => pow? x88 x89)).bind fun x91 => some (x90, x91))).bind fun x92 => ((some ([] : List ((Int) × (Int))))).bind fun l93 => some (x92 :: l93))).bind fun l95 => some (x94 :: l95))).bind fun l97 => some (x96 :: l97))).bind fun x99 => cat? x98 x99)).bind fun (v_pairs_100 : List ((Int) × (Int))) => ((((((some v_pairs_100)).bind fun x116 => ((((((((some v_whole_4)).bind fun x102 => ((some v_many_20)).bind fun x103 => fmod? x102 x103)).bind fun x108 => ((((((some v_whole_4)).bind fun x104 => ((some (24 : Int))).bind fun x105 => fdiv? x104 x105)).bind fun x106 => ((some v_many_20)).bind fun x107 => fmod? x106 x107)).bind fun x109 => some (x108, x109))).bind fun x114 => ((((((some (0 : Int))).bind fun x110 => ((some (0 : Int))).bind fun x111 => some (x110, x111))).bind fun x112 => ((some ([] : List ((Int) × (Int))))).bind fun l113 => some (x112 :: l113))).bind fun l115 => some (x114 :: l115))).bind fun x117 => cat? x116 x117)).bind fun l149 => forB (β := Bool) (fun (s101 : Unit) (a118 : (Int) × (Int)) => (((((some a118.1)).bind fun x119 => ((some a118.2)).bind fun x120 => mk_Stuck x119 x120)).bind fun (v_built_121 : Ans) => (((((((((some v_built_121)).bind fun x126 => Ans.one? x126)).bind fun x128 => ((((some v_built_121)).bind fun x127 => Ans.other? x127)).bind fun x129 => some (x128, x129))).bind fun x132 => ((((some a118.1)).bind fun x130 => ((some a118.2)).bind fun x131 => some (x130, x131))).bind fun x133 => some (!decide (x132 = x133)))).bind fun b134 => if b134 = true then ((some false)).bind (fun x148 => some (Rr.rt x148)) else (((((((((some v_built_121)).bind fun x138 => ((some v_order_here_18)).bind fun x135 => ((some v_weights_here_27)).bind fun x136 => ((some v_nailed_here_28)).bind fun x137 => pick [0, 1] (Ans.cls x138) (L_ms_shows_3 (Ans.cls x138) x138 x135 x136 x137))).bind fun x143 => ((((some v_order_here_18)).bind fun x139 => ((some v_nailed_here_28)).bind fun x140 => ((some a118.1)).bind fun x141 => ((some a118.2)).bind fun x142 => _law_is_stuck x139 x140 x141 x142)).bind fun x144 => _law_says x143 x144)).bind fun x145 => some (!x145))).bind fun b146 => if b146 = true then ((some false)).bind (fun x147 => some (Rr.rt x147)) else (some (Rr.nx ())))))) () l149).bind (Rr.goB fun (s101 : Unit) => (some (Rr.nx ()))))))))))))) () l150).bind (Rr.goR fun (s5 : Unit) => (((((((((((some (0 : Int))).bind fun x153 => ((((some (1 : Int))).bind fun x151 => ((some ([] : List (Int)))).bind fun l152 => some (x151 :: l152))).bind fun l154 => some (x153 :: l154))).bind fun x171 => ((((((((some (2 : Int))).bind fun x157 => ((((some (0 : Int))).bind fun x155 => ((some ([] : List (Int)))).bind fun l156 => some (x155 :: l156))).bind fun l158 => some (x157 :: l158))).bind fun x159 => ((some (1 : Int))).bind fun x160 => some (x159, x160))).bind fun x169 => ((((((((some (2 : Int))).bind fun x163 => ((((some (1 : Int))).bind fun x161 => ((some ([] : List (Int)))).bind fun l162 => some (x161 :: l162))).bind fun l164 => some (x163 :: l164))).bind fun x165 => ((some (1 : Int))).bind fun x166 => some (x165, x166))).bind fun x167 => ((some ([] : List ((List (Int)) × (Int))))).bind fun l168 => some (x167 :: l168))).bind fun l170 => some (x169 :: l170))).bind fun x172 => mk_Least x171 x172)).bind fun x188 => ((((some (2 : Int))).bind fun x177 => ((((some (0 : Int))).bind fun x175 => ((((some (1 : Int))).bind fun x173 => ((some ([] : List (Int)))).bind fun l174 => some (x173 :: l174))).bind fun l176 => some (x175 :: l176))).bind fun l178 => some (x177 :: l178))).bind fun x185 => ((((some (1 : Int))).bind fun x183 => ((((some (1 : Int))).bind fun x181 => ((((some (1 : Int))).bind fun x179 => ((some ([] : List (Int)))).bind fun l180 => some (x179 :: l180))).bind fun l182 => some (x181 :: l182))).bind fun l184 => some (x183 :: l184))).bind fun x186 => ((some ([] : List (Int)))).bind fun x187 => pick [0, 1] (Ans.cls x188) (L_ms_shows_3 (Ans.cls x188) x188 x185 x186 x187))).bind fun x189 => some (!decide (x189 = true)))).bind fun b190 => if b190 = true then (some false) else (((((((((((some (2 : Int))).bind fun x191 => ((some ([] : List (Int)))).bind fun l192 => some (x191 :: l192))).bind fun x209 => ((((((((some (2 : Int))).bind fun x195 => ((((some (0 : Int))).bind fun x193 => ((some ([] : List (Int)))).bind fun l194 => some (x193 :: l194))).bind fun l196 => some (x195 :: l196))).bind fun x197 => ((some (1 : Int))).bind fun x198 => some (x197, x198))).bind fun x207 => ((((((((some (2 : Int))).bind fun x201 => ((((some (1 : Int))).bind fun x199 => ((some ([] : List (Int)))).bind fun l200 => some (x199 :: l200))).bind fun l202 => some (x201 :: l202))).bind fun x203 => ((some (1 : Int))).bind fun x204 => some (x203, x204))).bind fun x205 => ((some ([] : List ((List (Int)) × (Int))))).bind fun l206 => some (x205 :: l206))).bind fun l208 => some (x207 :: l208))).bind fun x210 => mk_Least x209 x210)).bind fun x226 => ((((some (2 : Int))).bind fun x215 => ((((some (0 : Int))).bind fun x213 => ((((some (1 : Int))).bind fun x211 => ((some ([] : List (Int)))).bind fun l212 => some (x211 :: l212))).bind fun l214 => some (x213 :: l214))).bind fun l216 => some (x215 :: l216))).bind fun x223 => ((((some (1 : Int))).bind fun x221 => ((((some (1 : Int))).bind fun x219 => ((((some (1 : Int))).bind fun x217 => ((some ([] : List (Int)))).bind fun l218 => some (x217 :: l218))).bind fun l220 => some (x219 :: l220))).bind fun l222 => some (x221 :: l222))).bind fun x224 => ((some ([] : List (Int)))).bind fun x225 => pick [0, 1] (Ans.cls x226) (L_ms_shows_3 (Ans.cls x226) x226 x223 x224 x225))).bind fun x227 => some (!decide (x227 = false)))).bind fun b228 => if b228 = true then (some false) else (((((((((some (0 : Int))).bind fun x229 => ((some (1 : Int))).bind fun x230 => mk_Stuck x229 x230)).bind fun x246 => ((((some (1 : Int))).bind fun x233 => ((((some (0 : Int))).bind fun x231 => ((some ([] : List (Int)))).bind fun l232 => some (x231 :: l232))).bind fun l234 => some (x233 :: l234))).bind fun x243 => ((((some (1 : Int))).bind fun x237 => ((((some (1 : Int))).bind fun x235 => ((some ([] : List (Int)))).bind fun l236 => some (x235 :: l236))).bind fun l238 => some (x237 :: l238))).bind fun x244 => ((((some (0 : Int))).bind fun x241 => ((((some (1 : Int))).bind fun x239 => ((some ([] : List (Int)))).bind fun l240 => some (x239 :: l240))).bind fun l242 => some (x241 :: l242))).bind fun x245 => pick [0, 1] (Ans.cls x246) (L_ms_shows_3 (Ans.cls x246) x246 x243 x244 x245))).bind fun x247 => some (!decide (x247 = true)))).bind fun b248 => if b248 = true then (some false) else (((((((((some (2 : Int))).bind fun x249 => ((some ([] : List (Int)))).bind fun l250 => some (x249 :: l250))).bind fun x257 => ((((((((some (2 : Int))).bind fun x251 => ((some ([] : List (Int)))).bind fun l252 => some (x251 :: l252))).bind fun x253 => ((some (1 : Int))).bind fun x254 => some (x253, x254))).bind fun x255 => ((some ([] : List ((List (Int)) × (Int))))).bind fun l256 => some (x255 :: l256))).bind fun x258 => mk_Least x257 x258)).bind fun x276 => ((((some (2 : Int))).bind fun x263 => ((((some (0 : Int))).bind fun x261 => ((((some (1 : Int))).bind fun x259 => ((some ([] : List (Int)))).bind fun l260 => some (x259 :: l260))).bind fun l262 => some (x261 :: l262))).bind fun l264 => some (x263 :: l264))).bind fun x273 => ((((some (1 : Int))).bind fun x269 => ((((some (1 : Int))).bind fun x267 => ((((some (1 : Int))).bind fun x265 => ((some ([] : List (Int)))).bind fun l266 => some (x265 :: l266))).bind fun l268 => some (x267 :: l268))).bind fun l270 => some (x269 :: l270))).bind fun x274 => ((((some (2 : Int))).bind fun x271 => ((some ([] : List (Int)))).bind fun l272 => some (x271 :: l272))).bind fun x275 => pick [0, 1] (Ans.cls x276) (L_ms_shows_3 (Ans.cls x276) x276 x273 x274 x275))).bind fun x277 => some (decide (x277 = true)))))))))
end Fw

set_option Elab.async false
set_option linter.all false
/-! M02: law 2 holds, in plain Lean. -/
namespace PU
open PySem L2
theorem mapO_ok {γ : Type} {f : γ → Option γ} {A B : γ → Prop} (h : ∀ c, A c → Ok (f c) B) : ∀ l : List γ, (∀ c ∈ l, A c) → Ok (mapO f l) fun l' => l'.length = l.length ∧ ∀ c ∈ l', B c
  | [], _ => .pure ⟨rfl, fun _ h => absurd h (by simp)⟩
  | c :: cs, hA => by
    refine Ok.bind (h c (hA c List.mem_cons_self)) fun y hy => ?_
    refine Ok.bind (mapO_ok h cs fun d hd => hA d (List.mem_cons_of_mem _ hd)) fun ys hys => .pure ⟨by simp [hys.1], fun d hd => ?_⟩
    rcases List.mem_cons.mp hd with rfl | hd
    · exact hy
    · exact hys.2 d hd
theorem goR_nx {s β : Type} {f : s → Option β} {x : s} : Rr.goR f (.nx x) = f x := rfl
/-- books and rows of such a size -/
def SzB (l : List Int) : Prop := l.length < 60
def SzL (p : List (List Int × Int)) : Prop := p.length ≤ 4000 ∧ ∀ r ∈ p, r.1.length < 60
end PU
namespace Fw
open PySem L2 PU
theorem says_eq' (a b : Bool) : _law_says a b = some (decide (a = b)) := by
  unfold _law_says
  rfl
theorem shows_l {o w n s : List Int} {p : List (List Int × Int)} (h : Row o w n) (hs : s.length < 60) (hp : SzL p) :
    pick [0, 1] (Ans.least s p).cls (L_ms_shows_3 (Ans.least s p).cls (.least s p) o w n) = some (leastV o w n s p) ∧ _law_is_least o w n s p = some (leastV o w n s p) := by
  refine ⟨?_, law_is_least_ok h hs hp.2⟩
  have e : L_Least_shows (.least s p) o w n = Least_shows (.least s p) o w n := rfl
  have c : L_ms_shows_3 0 = L_Least_shows := if_pos rfl
  show pick [0, 1] 0 (L_ms_shows_3 0 (.least s p) o w n) = _
  rw [c, e, least_shows_ok h (by omega) fun r hr => by have := hp.2 r hr; omega]
  rfl
theorem shows_s {o w n : List Int} {a b : Int} (h : Row o w n) :
    pick [0, 1] (Ans.stuck a b).cls (L_ms_shows_3 (Ans.stuck a b).cls (.stuck a b) o w n) = some (stuckV o n a b) ∧ _law_is_stuck o n a b = some (stuckV o n a b) := by
  refine ⟨?_, law_is_stuck_ok h⟩
  have c : L_ms_shows_3 1 = Stuck_shows := if_neg (by decide)
  show pick [0, 1] 1 (L_ms_shows_3 1 (.stuck a b) o w n) = _
  rw [c, stuck_shows_ok h]
  rfl
theorem copy_rows {p : List (List Int × Int)} (h : p.length ≤ 4000) : lc? (fun _ => some true) (fun a : List Int × Int => some (a.1, a.2)) p = some p := by
  rw [lc_map (f' := fun x => x) (by omega) fun r _ => rfl]
  simp
theorem mk_least_ok {s : List Int} {p : List (List Int × Int)} (h : p.length ≤ 4000) : mk_Least s p = some (.least s p) := by
  unfold mk_Least
  simp only [Option.bind_some, copy_rows h]
theorem right_ok {o w n s : List Int} {p : List (List Int × Int)} (h : Row o w n) (hs : s.length < 60) (hp : SzL p) : _law_right o w n s p = some true := by
  obtain ⟨d1, d2⟩ := shows_l h hs hp
  have pl := hp.1
  have m0 : mk_Least [] [] = some (.least [] []) := rfl
  have : Ok (_law_right o w n s p) fun r => r = true := by
    unfold _law_right
    simp only [Option.bind_some, copy_rows pl, mk_least_ok pl, m0, Option.map_some]
    refine Ok.bind (A := fun _ => True) ((Ok.app (by omega)).mono fun _ _ => trivial) fun s1 _ => ?_
    refine Ok.bind (A := fun H : Du (List Int) (List (List Int × Int)) => H.b.length ≤ 4000) ?_ fun H hH => ?_
    · refine Ok.bind (A := fun p' : List (List Int × Int) => p'.length ≤ 4000) ?_ fun p' hp' => .pure hp'
      refine (mapO_ok (A := fun r : List Int × Int => r.1.length < 60) (B := fun _ => True) ?_ p hp.2).mono fun l hl => by rw [hl.1]; exact pl
      intro r hr
      refine Ok.bind (A := fun _ => True) ?_ fun c _ => .pure trivial
      exact Ok.bind (A := fun _ => True) ((Ok.app (by omega)).mono fun _ _ => trivial) fun x _ => .pure trivial
    refine Ok.bind (A := fun _ => True) ((Ok.app (by omega)).mono fun _ _ => trivial) fun x _ => ?_
    have c1 : cat? [] s = some s := by rw [cat_ok (by simp; omega)]; rfl
    have c2 : cat? [] p = some p := by rw [cat_ok (by simp; omega)]; rfl
    simp only [Ans.stayL?, Ans.rows?, Ans.setStay?, Ans.setRows?, c1, c2, d1, d2, says_eq', Option.bind_some, decide_true, Bool.not_true, Bool.false_eq_true, if_false]
    exact .pure rfl
  obtain ⟨r, e, rfl⟩ := this
  exact e
theorem bent_ok {row : List Int} {at_ bk : Int} (hr : row.length ≤ 25) : Ok (_law_bent row at_ bk) fun L => L.length ≤ 11 ∧ ∀ r ∈ L, r.length < 60 := by
  have cl : ∀ lo hi, (cut row lo hi).length ≤ 25 := fun lo hi => Nat.le_trans (cut_len _ _ _) hr
  have p20 : pow? 10 20 = some (10 ^ 20) := rfl
  have k1 : ∀ lo hi, cat? row (cut row lo hi) = some (row ++ cut row lo hi) := fun lo hi => cat_ok (by have := cl lo hi; omega)
  have k2 : ∀ x : Int, cat? row [x] = some (row ++ [x]) := fun x => cat_ok (by simp; omega)
  have k3 : cat? [bk] row = some ([bk] ++ row) := cat_ok (by simp; omega)
  unfold _law_bent
  simp only [Option.bind_some, p20, k1, k2, k3]
  generalize hL : [row.reverse, row ++ cut row (some (-1)) none, row ++ [bk], [bk] ++ row, [], row ++ [-1], row ++ [10 ^ 20]] = L0
  have l0 : L0.length = 7 := by rw [← hL]; rfl
  have g : ∀ r ∈ L0, r.length < 60 := by
    rw [← hL]
    intro r hm
    simp only [List.mem_cons, List.not_mem_nil, or_false] at hm
    rcases hm with rfl | rfl | rfl | rfl | rfl | rfl | rfl
    · rw [List.length_reverse]; omega
    · have := cl (some (-1)) none
      rw [List.length_append]
      omega
    · simp; omega
    · simp; omega
    · simp
    · simp; omega
    · simp; omega
  refine Ok.bind (A := fun L : List (List Int) => L.length ≤ 11 ∧ ∀ r ∈ L, r.length < 60) ?_ fun L hL => .pure hL
  by_cases e : row = []
  · rw [decide_eq_true e]
    exact .pure ⟨by omega, g⟩
  · rw [decide_eq_false e]
    have rpos := List.length_pos_iff.mpr e
    show Ok (Option.bind _ _) _
    refine Ok.bind (Ok.fmod (by omega)) fun sp hsp => ?_
    obtain ⟨v, ev, _⟩ := Ok.at hsp.2.1 hsp.2.2
    simp only [ev, Option.bind_some]
    refine Ok.bind (A := fun L : List (List Int) => L.length ≤ 11 ∧ ∀ r ∈ L, r.length < 60) ?_ fun L hL => .pure hL
    refine Ok.bind (A := fun M : List (List Int) => M.length ≤ 4 ∧ ∀ r ∈ M, r.length < 60) ?_ fun M hM => ?_
    · refine Ok.lc (A := fun r : List Int => r.length < 60) (by simp) (fun x hx => ?_) fun ys hy1 hy2 => ⟨by rw [hy1]; simp, hy2⟩
      have x1 : x.length ≤ 1 := by
        simp only [List.mem_cons, List.not_mem_nil, or_false] at hx
        rcases hx with rfl | rfl | rfl | rfl <;> simp
      have z1 := cl none (some sp)
      have z2 := cl (some (sp + 1)) none
      rw [cat_ok (show (cut row none (some sp)).length + x.length ≤ 100000 by omega)]
      show Ok (cat? _ _) _
      refine (Ok.cat (by rw [List.length_append]; omega)).mono fun y hy => ?_
      rw [hy, List.length_append, List.length_append]
      omega
    · refine (Ok.cat (by omega)).mono fun y hy => ⟨by rw [hy, List.length_append]; omega, fun r hr => ?_⟩
      rw [hy] at hr
      rcases List.mem_append.mp hr with hr | hr
      · exact g r hr
      · exact hM.2 r hr
/-- told books and rows a little otherwise -/
theorem lots_ok {s : List Int} {p : List (List Int × Int)} {wh m : Int} (hm : 0 < m) (hs : s.length ≤ 24) (hp : p.length ≤ 1000) (hr : ∀ r ∈ p, r.1.length ≤ 24) :
    Ok (_law_lots s p wh m) fun L => ∀ q ∈ L, q.1.length < 60 ∧ SzL q.2 := by
  have sr : ∀ q : List (List Int × Int), q.length ≤ 4000 → (∀ r ∈ q, r ∈ p ∨ r.1.length < 60) → SzL q := fun q hq hqq => ⟨hq, fun r h => by
    rcases hqq r h with e | e
    · have := hr r e; omega
    · exact e⟩
  have sp0 : SzL p := sr p (by omega) fun r h => .inl h
  have cl : ∀ lo hi, (cut p lo hi).length ≤ 1000 := fun lo hi => Nat.le_trans (cut_len _ _ _) hp
  have p20 : pow? 10 20 = some (10 ^ 20) := rfl
  have k1 : cat? p [([], 1)] = some (p ++ [(([] : List Int), (1 : Int))]) := cat_ok (by simp; omega)
  have k2 : ∀ a b c d, cat? (cut p a b) (cut p c d) = some (cut p a b ++ cut p c d) := fun a b c d => cat_ok (by have := cl a b; have := cl c d; omega)
  have k3 : ∀ lo hi r, cat? (cut p lo hi) [r] = some (cut p lo hi ++ [r]) := fun lo hi r => cat_ok (by have := cl lo hi; simp; omega)
  unfold _law_lots
  simp only [Option.bind_some, p20, k1, k2, k3]
  refine Ok.bind (Ok.fmod hm) fun bk _ => ?_
  generalize hL : [(s, p), (s, []), ([], p), (s, p.reverse), (s, p ++ [(([] : List Int), (1 : Int))])] = L0
  have l0 : L0.length = 5 := by rw [← hL]; rfl
  have g : ∀ q ∈ L0, q.1.length < 60 ∧ SzL q.2 := by
    rw [← hL]
    intro q hm
    have s60 : s.length < 60 := by omega
    simp only [List.mem_cons, List.not_mem_nil, or_false] at hm
    rcases hm with rfl | rfl | rfl | rfl | rfl
    · exact ⟨s60, sp0⟩
    · exact ⟨s60, by simp, fun r h => by cases h⟩
    · exact ⟨by simp, sp0⟩
    · exact ⟨s60, sr _ (by simp; omega) fun r h => .inl (List.mem_reverse.mp h)⟩
    · refine ⟨s60, sr _ (by simp; omega) fun r h => ?_⟩
      rcases List.mem_append.mp h with h | h
      · exact .inl h
      · rw [List.mem_singleton.mp h]; exact .inr (by simp)
  refine Ok.bind (A := fun L : List (List Int × List (List Int × Int)) => ∀ q ∈ L, q.1.length < 60 ∧ SzL q.2) ?_ fun L hL => .pure hL
  refine Ok.bind (A := fun l : List Int => l.length = 2) ?_ fun l hl => ?_
  · refine Ok.bind (A := fun t : Tu Int => t.xs.length = 2) ?_ fun t ht => .pure ht
    refine Ok.bind (A := fun t : List Int => t.length = 2) ?_ fun t ht => .pure ht
    exact Ok.bind (A := fun _ => True) ((Ok.fdiv (by decide) (by decide)).mono fun _ _ => trivial) fun x _ => .pure rfl
  refine (Ok.forS (fun k (L : List (List Int × List (List Int × Int))) => L.length ≤ 5 + 40 * k ∧ ∀ q ∈ L, q.1.length < 60 ∧ SzL q.2) ⟨by omega, g⟩ ?_).mono fun L hL => hL.2
  rintro i L at_ ea ⟨L1, L2⟩
  have il : i < 2 := by have := (List.getElem?_eq_some_iff.mp ea).1; omega
  refine Ok.bind (A := fun L' : List (List Int × List (List Int × Int)) => L'.length ≤ 16 + 40 * i ∧ ∀ q ∈ L', q.1.length < 60 ∧ SzL q.2) ?_ fun L' hL' => ?_
  · refine Ok.bind (A := fun M : List (List Int × List (List Int × Int)) => M.length ≤ 11 ∧ ∀ q ∈ M, q.1.length < 60 ∧ SzL q.2) ?_ fun M hM => ?_
    · refine Ok.bind (bent_ok (by omega)) fun B hB => ?_
      rw [lc_map (f' := fun a => (a, p)) (by omega) fun _ _ => rfl]
      refine .pure ⟨by rw [List.length_map]; exact hB.1, fun q hq => ?_⟩
      obtain ⟨y, hy, rfl⟩ := List.mem_map.mp hq
      exact ⟨hB.2 y hy, sp0⟩
    · refine (Ok.cat (by omega)).mono fun y hy => ⟨by rw [hy, List.length_append]; omega, fun q hq => ?_⟩
      rw [hy] at hq
      rcases List.mem_append.mp hq with hq | hq
      · exact L2 q hq
      · exact hM.2 q hq
  refine Ok.bind (A := fun L' : List (List Int × List (List Int × Int)) => L'.length ≤ 5 + 40 * (i + 1) ∧ ∀ q ∈ L', q.1.length < 60 ∧ SzL q.2) ?_ fun L' hL' => .pure hL'
  by_cases e : p = []
  · rw [decide_eq_true e]
    exact .pure ⟨by omega, hL'.2⟩
  · rw [decide_eq_false e]
    have ppos := List.length_pos_iff.mpr e
    show Ok (Option.bind _ _) _
    refine Ok.bind (Ok.fmod (by omega)) fun sp hsp => ?_
    refine Ok.bind (Ok.at hsp.2.1 hsp.2.2) fun z hz => ?_
    have z24 := hr z hz
    have s60 : s.length < 60 := by omega
    refine Ok.bind (A := fun M : List (List Int × Int) => M.length ≤ 11 ∧ ∀ r ∈ M, r.1.length < 60) ?_ fun M hM => ?_
    · refine Ok.bind (A := fun M : List (List Int) => M.length ≤ 11 ∧ ∀ r ∈ M, r.length < 60) ?_ fun B hB => ?_
      · exact Ok.bind (A := fun _ => True) ((Ok.fdiv (by decide) (by decide)).mono fun _ _ => trivial) fun x _ => bent_ok (by omega)
      · rw [lc_map (f' := fun a => (a, z.2)) (by omega) fun _ _ => rfl]
        refine .pure ⟨by rw [List.length_map]; exact hB.1, fun q hq => ?_⟩
        obtain ⟨y, hy, rfl⟩ := List.mem_map.mp hq
        exact hB.2 y hy
    refine Ok.bind (A := fun M : List (List Int × Int) => M.length ≤ 16 ∧ ∀ r ∈ M, r.1.length < 60) ?_ fun M' hM' => ?_
    · refine Ok.bind (A := fun N : List (List Int × Int) => N.length = 5 ∧ ∀ r ∈ N, r.1.length < 60) ?_ fun N hN => ?_
      · rw [lc_map (f' := fun a => (z.1, a)) (by simp) fun _ _ => rfl]
        refine .pure ⟨by simp, fun q hq => ?_⟩
        obtain ⟨y, hy, rfl⟩ := List.mem_map.mp hq
        show z.1.length < 60
        omega
      · refine (Ok.cat (by omega)).mono fun y hy => ⟨by rw [hy, List.length_append]; omega, fun q hq => ?_⟩
        rw [hy] at hq
        rcases List.mem_append.mp hq with hq | hq
        · exact hM.2 q hq
        · exact hN.2 q hq
    have q1 : ∀ r : List Int × Int, cat? (cut p none (some sp) ++ [r]) (cut p (some (sp + 1)) none) = some (cut p none (some sp) ++ [r] ++ cut p (some (sp + 1)) none) := fun r => cat_ok (by have := cl none (some sp); have := cl (some (sp + 1)) none; simp; omega)
    simp only [q1, Option.bind_some]
    refine Ok.bind (A := fun L' : List (List Int × List (List Int × Int)) => L'.length ≤ 32 + 40 * i ∧ ∀ q ∈ L', q.1.length < 60 ∧ SzL q.2) ?_ fun L'' hL'' => ?_
    · rw [lc_map (f' := fun a => (s, cut p none (some sp) ++ [a] ++ cut p (some (sp + 1)) none)) (by omega) fun _ _ => rfl]
      refine (Ok.cat (by rw [List.length_map]; omega)).mono fun y hy => ⟨by rw [hy, List.length_append, List.length_map]; omega, fun q hq => ?_⟩
      rw [hy] at hq
      rcases List.mem_append.mp hq with hq | hq
      · exact hL'.2 q hq
      · obtain ⟨r, hr', rfl⟩ := List.mem_map.mp hq
        refine ⟨s60, sr _ (by have := cl none (some sp); have := cl (some (sp + 1)) none; simp; omega) fun x hx => ?_⟩
        rcases List.mem_append.mp hx with hx | hx
        · rcases List.mem_append.mp hx with hx | hx
          · exact .inl (cut_mem hx)
          · rw [List.mem_singleton.mp hx]; exact .inr (hM'.2 r hr')
        · exact .inl (cut_mem hx)
    refine Ok.bind (A := fun L' : List (List Int × List (List Int × Int)) => L'.length ≤ 34 + 40 * i ∧ ∀ q ∈ L', q.1.length < 60 ∧ SzL q.2) ?_ fun L3 hL3 => .pure ⟨by omega, hL3.2⟩
    refine (Ok.cat (by simp; omega)).mono fun y hy => ⟨by rw [hy]; simp; omega, fun q hq => ?_⟩
    rw [hy] at hq
    rcases List.mem_append.mp hq with hq | hq
    · exact hL''.2 q hq
    · simp only [List.mem_cons, List.not_mem_nil, or_false] at hq
      rcases hq with rfl | rfl
      · refine ⟨s60, sr _ (by have := cl none (some sp); have := cl (some (sp + 1)) none; simp; omega) fun x hx => .inl ?_⟩
        rcases List.mem_append.mp hx with hx | hx <;> exact cut_mem hx
      · refine ⟨s60, sr _ (by have := cl none (some (sp + 1)); have := cl (some sp) none; simp; omega) fun x hx => .inl ?_⟩
        rcases List.mem_append.mp hx with hx | hx <;> exact cut_mem hx
theorem law_true (ns : List Int) (h : ns.length ≤ 63) : law ⟨ns⟩ = some true := by
  have k1 : pick [0, 1] 0 (L_ms_shows_3 0 (.least [0, 1] [([2, 0], 1), ([2, 1], 1)]) [2, 0, 1] [1, 1, 1] []) = some true := by decide +kernel
  have k2 : pick [0, 1] 0 (L_ms_shows_3 0 (.least [2] [([2, 0], 1), ([2, 1], 1)]) [2, 0, 1] [1, 1, 1] []) = some false := by decide +kernel
  have k3 : pick [0, 1] 1 (L_ms_shows_3 1 (.stuck 0 1) [1, 0] [1, 1] [0, 1]) = some true := by decide +kernel
  have k4 : pick [0, 1] 0 (L_ms_shows_3 0 (.least [2] [([2], 1)]) [2, 0, 1] [1, 1, 1] [2]) = some true := by decide +kernel
  have m1 : ∀ s : List Int, mk_Least s [([2, 0], 1), ([2, 1], 1)] = some (.least s [([2, 0], 1), ([2, 1], 1)]) := fun s => rfl
  have m4 : mk_Least [2] [([2], 1)] = some (.least [2] [([2], 1)]) := rfl
  have ms : ∀ a b : Int, mk_Stuck a b = some (.stuck a b) := fun _ _ => rfl
  have cr : ∀ (s : List Int) ps, Ans.cls (.least s ps) = 0 := fun _ _ => rfl
  have cs : ∀ a b, Ans.cls (.stuck a b) = 1 := fun _ _ => rfl
  have : Ok (law ⟨ns⟩) fun r => r = true := by
    unfold law
    simp only [Option.bind_some]
    refine Ok.bind (A := fun r : Rr Unit Bool => r = .nx ()) ?_ ?_
    · rw [rng_ok (a := 2) (by omega) (by omega)]
      simp only [Option.bind_some]
      refine (Ok.forB (fun _ _ => True) (fun _ => False) trivial ?_).mono ?_
      · intro i _ b eb _
        obtain ⟨a1, a2⟩ := rng_at eb
        simp only [Int.zero_add] at a1 a2
        refine Ok.bind (A := fun o => ∃ w n, _law_weights ⟨ns⟩ b o.length = some w ∧ _law_nailed ⟨ns⟩ b o.length = some n ∧ Row o w n) ?_ ?_
        · refine Ok.bind (A := fun m => m = 24 ∨ m = 10) ?_ fun m hm => ?_
          · refine Ok.bind (A := fun _ => True) ?_ fun c _ => ?_
            · exact Ok.bind (Ok.fmod (by decide)) fun x _ => .pure trivial
            · cases c
              · exact .pure (.inr rfl)
              · exact .pure (.inl rfl)
          · obtain ⟨o, w, n, q1, q2, q3, hr, hl⟩ := row_ok ⟨ns⟩ (b := b) (most := m) (by omega) (by omega) (by omega) (by omega)
            exact .eq q1 ⟨w, n, q2, q3, hr⟩
        · rintro o ⟨w, n, q2, q3, hr⟩
          have hne := hr.ne
          have hnl := hr.nl
          have hle := hr.le
          obtain ⟨r, g1, t⟩ := least_told hr
          simp only [q2, q3, g1, Option.bind_some]
          refine Ok.bind (A := fun z : List Int × List (List Int × Int) => z.1.length ≤ 24 ∧ z.2.length ≤ 1000 ∧ ∀ q ∈ z.2, q.1.length ≤ 24) ?_ fun z hz => ?_
          · rcases t.ex with ⟨_, l, p, rfl, _, h2, h3, _, h4, _⟩ | ⟨x, y, rfl, _⟩
            · exact .pure ⟨h2, h3, h4⟩
            · exact .pure ⟨by simp, by simp, fun q hq => by cases hq⟩
          refine Ok.bind (A := fun r : Rr Unit Bool => r = .nx ()) ?_ ?_
          · refine Ok.bind (A := fun L : List (List Int × List (List Int × Int)) => ∀ q ∈ L, q.1.length < 60 ∧ SzL q.2) ?_ fun L hL => ?_
            · exact Ok.bind (A := fun _ => True) ((Ok.fdiv (by decide) (by decide)).mono fun _ _ => trivial) fun x _ => lots_ok (by omega) hz.1 hz.2.1 hz.2.2
            refine (Ok.forB (fun _ _ => True) (fun _ => False) trivial ?_).mono ?_
            · intro j _ q eq _
              obtain ⟨u1, u2⟩ := hL q (List.mem_of_getElem? eq)
              simp only [right_ok hr u1 u2, Option.bind_some, Bool.not_true, Bool.false_eq_true, if_false]
              exact .pure (.inl ⟨(), rfl, trivial⟩)
            · rintro r (⟨y, rfl, _⟩ | ⟨y, rfl, hf⟩)
              · rfl
              · exact hf.elim
          rintro _ rfl
          show Ok (Option.bind _ _) _
          have lz : listZip? n (cut n (some 1) none) = some (List.zip n (cut n (some 1) none)) := if_pos (by omega)
          have zl : (List.zip n (cut n (some 1) none)).length ≤ 24 := by rw [List.length_zip]; exact Nat.le_trans (Nat.min_le_left _ _) (by omega)
          have p20 : pow? 10 20 = some (10 ^ 20) := rfl
          simp only [lz, p20, Option.bind_some]
          refine Ok.bind (A := fun P : List (Int × Int) => P.length ≤ 30) ?_ fun P hP => ?_
          · exact (Ok.cat (by show _ + 3 ≤ _; omega)).mono fun y hy => by rw [hy, List.length_append]; show _ + 3 ≤ 30; omega
          refine Ok.bind (A := fun r : Rr Unit Bool => r = .nx ()) ?_ ?_
          · refine Ok.bind (A := fun _ => True) ?_ fun P2 _ => ?_
            · refine Ok.bind (A := fun Q : List (Int × Int) => Q.length = 2) ?_ fun Q hQ => (Ok.cat (by omega)).mono fun _ _ => trivial
              refine Ok.bind (A := fun _ => True) ?_ fun x _ => .pure rfl
              refine Ok.bind (A := fun _ => True) ((Ok.fmod (by omega)).mono fun _ _ => trivial) fun x _ => ?_
              refine Ok.bind (A := fun _ => True) ?_ fun y _ => .pure trivial
              exact Ok.bind (A := fun _ => True) ((Ok.fdiv (by decide) (by decide)).mono fun _ _ => trivial) fun y _ => (Ok.fmod (by omega)).mono fun _ _ => trivial
            refine (Ok.forB (fun _ _ => True) (fun _ => False) trivial ?_).mono ?_
            · intro j _ q eq _
              obtain ⟨u1, u2⟩ := shows_s (a := q.1) (b := q.2) hr
              simp only [ms, Ans.one?, Ans.other?, u1, u2, says_eq', Option.bind_some, decide_true, Bool.not_true, Bool.false_eq_true, if_false]
              exact .pure (.inl ⟨(), rfl, trivial⟩)
            · rintro r (⟨y, rfl, _⟩ | ⟨y, rfl, hf⟩)
              · rfl
              · exact hf.elim
          rintro _ rfl
          exact .pure (.inl ⟨(), rfl, trivial⟩)
      · rintro r (⟨y, rfl, _⟩ | ⟨y, rfl, hf⟩)
        · rfl
        · exact hf.elim
    · rintro _ rfl
      rw [goR_nx]
      simp only [m1, m4, ms, cr, cs, k1, k2, k3, k4, Option.bind_some, decide_true, Bool.not_true, Bool.false_eq_true, if_false, if_true]
      exact .pure rfl
  obtain ⟨r, h1, rfl⟩ := this
  exact h1
end Fw

set_option Elab.async false
set_option maxRecDepth 100000
set_option maxHeartbeats 4000000
set_option linter.all false
namespace Fw
open PySem L2 PU
open PU.Enc
def top (i : Nat) : Stmt := PySem.Challenge.pw_fewtakings_k02_least_by_hand.main.body.getD i (.Pass ⟨0, 0, 0, 0⟩)
structure Csts (p : Pm) (mg : Str → Option Value) : Prop where
  MOST_WEIGHT : ∃ t, mg "MOST_WEIGHT" = some (.int 9 t)
  MOST_BOOKS : ∃ t, mg "MOST_BOOKS" = some (.int 24 t)
  cls_0 : ClF p mg 0 "Least"
  na_0_rows : NoAttr p.K (p.cl 0) "rows"
  na_0_stay : NoAttr p.K (p.cl 0) "stay"
  cls_1 : ClF p mg 1 "Stuck"
  na_1_other : NoAttr p.K (p.cl 1) "other"
  na_1_one : NoAttr p.K (p.cl 1) "one"
  kit_0_1 : PySem.W.kitOne p.K (.ref (p.cl 0)) (.ref (p.cl 1)) = some false
  kit_1_1 : PySem.W.kitOne p.K (.ref (p.cl 1)) (.ref (p.cl 1)) = some true
theorem isi_1 {p : Pm} {mg : Str → Option Value} (C_ : Csts p mg) : ∀ x b, Ans.isi [0, 1] 1 x = some b → ∃ c fs nm, enc x = .ins c fs ∧ ClF p mg c nm ∧ PySem.W.kitOne p.K (.ref (p.cl c)) (.ref (p.cl 1)) = some b := by
  intro x b e
  cases x <;> simp [Ans.isi, Ans.isiA, Ans.cls] at e <;> subst e <;> first | exact ⟨0, _, _, rfl, C_.cls_0, C_.kit_0_1⟩ | exact ⟨1, _, _, rfl, C_.cls_1, C_.kit_1_1⟩
section
variable {P : Program} {w : World} {p : Pm} {mg : Str → Option Value} {base : Heap}
/-! ## heights -/
abbrev s_heights : Stmt := top 1
theorem sc_heights : FnScope ["order", "weights", "found", "at", "book", "best", "ahead", "spot"] ["order", "weights"] (defScope s_heights) := ⟨rfl, rfl, rfl, by decide +kernel, rfl, by decide +kernel, by decide +kernel⟩
theorem ok_heights {fa : Addr} {fd : FuncData} (T : Blt mg) (C_ : Csts p mg)  (F : Fun p.K "heights" "heights" s_heights fa fd) : FnOk P w p.K mg base CX0 1 fa fd ["order", "weights"] (sp2 p true heights) := by
  refine def_ok (n := 6) F sc_heights (fun _ => rfl) rfl fun cdv A outer s H E hr => ?_
  apply Exists.intro
  apply And.intro
  · exact (pss_cons (ps_set (i := 2) sc_heights.nd rfl (by first | exact Or.inl rfl | exact Or.inr rfl) (pe_lst pa_nil)) (pss_cons (ps_for PassesOwn.never rfl (xi_enum p.K (by rfl) T.enumerate (pa_cons (pv 0) pa_nil)) (xg_tup (n := 2) p.K rfl (pgs_cons (pg_name (i := 3) sc_heights.nd rfl (by first | exact Or.inl rfl | exact Or.inr rfl)) (pgs_cons (pg_name (i := 4) sc_heights.nd rfl (by first | exact Or.inl rfl | exact Or.inr rfl)) pgs_nil))) (pss_cons (ps_asg (pe_tup (pa_cons pe_int (pa_cons (pe_un un_neg pe_int) pa_nil))) (xg_tup (n := 2) p.K rfl (pgs_cons (pg_name (i := 5) sc_heights.nd rfl (by first | exact Or.inl rfl | exact Or.inr rfl)) (pgs_cons (pg_name (i := 6) sc_heights.nd rfl (by first | exact Or.inl rfl | exact Or.inr rfl)) pgs_nil)))) (pss_cons (ps_for PassesOwn.never rfl (pi_range1 (by rfl) T.range (pa_cons (pv 3) pa_nil)) (pg_name (i := 7) sc_heights.nd rfl (by first | exact Or.inl rfl | exact Or.inr rfl)) (pss_cons (ps_if (PW.pt (pw_and (pt_cmpR op_lt (xe_ixL p.K (pv 0) (pv 7) (fun _ _ => rfl)) (pv 4) (nomark _)) (pw_and1 (pt_cmpR op_gt (xe_ixT p.K (xe_ixL p.K (pv 2) (pv 7) (fun _ _ => rfl)) pe_int (fun _ _ => rfl)) (pv 5) (nomark _))))) (pss_cons (ps_par (i := 5) (j := 6) rfl sc_heights.nd rfl rfl (by decide) rfl rfl (pa_cons (xe_ixT p.K (xe_ixL p.K (pv 2) (pv 7) (fun _ _ => rfl)) pe_int (fun _ _ => rfl)) (pa_cons (pv 7) pa_nil)) (by rfl)) pss_nil) pss_nil) pss_nil)) (pss_cons (ps_expr (xe_append p.K (pv 2) (pa_cons (pe_tup (pa_cons (pe_op op_add (pv 5) (xe_ixL p.K (pv 1) (pv 4) (fun _ _ => rfl))) (pa_cons (pv 6) pa_nil))) pa_nil))) pss_nil)))) (pss_one (ps_ret (pv 2)))))
  rintro ⟨v_order, v_weights⟩
  show Bk p _ [.va (enc (v_order : List (Int))), .va (enc (v_weights : List (Int))), .fr, .fr, .fr, .fr, .fr, .fr] (heights v_order v_weights) _
  unfold heights
  exact (k_asg (ev_lst es_nil) (fun v_found_1 => (k_seq (k_for (envS := fun (s2 : (List ((Int) × (Int)))) => [.va (enc (v_order : List (Int))), .va (enc (v_weights : List (Int))), .ow (List.map enc (s2 : List ((Int) × (Int)))), .fr, .fr, .fr, .fr, .fr]) (ei_enum (ev_var rfl)) (le_r (le_r (le_r (le_f (le_f (le_f (le_f (le_f le_nil)))))))) (fun _ _ => (tg_tup (tgs_cons tg_name (tgs_cons tg_name tgs_nil)))) (fun s2 a4 => (k_tup ev_int (ev_neg ev_int) (fun v_best_6 v_ahead_7 => (k_seq (k_for (envS := fun (s8 : (Int) × (Int)) => [.va (enc (v_order : List (Int))), .va (enc (v_weights : List (Int))), .ow (List.map enc (s2 : List ((Int) × (Int)))), .va (enc (a4.1 : Int)), .va (enc (a4.2 : Int)), .va (enc (s8.1 : Int)), .va (enc (s8.2 : Int)), .fr]) (ei_range1 (ev_var rfl)) (le_r (le_r (le_r (le_r (le_r (le_r (le_r (le_f le_nil)))))))) (fun _ _ => tg_name) (fun s8 a10 => (k_seq (envN := fun (s25 : (Int) × (Int)) => [.va (enc (v_order : List (Int))), .va (enc (v_weights : List (Int))), .ow (List.map enc (s2 : List ((Int) × (Int)))), .va (enc (a4.1 : Int)), .va (enc (a4.2 : Int)), .va (enc (s25.1 : Int)), .va (enc (s25.2 : Int)), .va (enc (a10 : Int))]) (k_if (et_and (et_test (ev_lt (ev_ixL (ev_var rfl) (ev_var rfl)) (ev_var rfl))) (et_test (ev_gt (ev_fst (own_ix rfl (ev_var rfl))) (ev_var rfl)))) (k_par (ev_fst (own_ix rfl (ev_var rfl))) (ev_var rfl) (fun v_best_23 v_ahead_24 => (k_end (le_r (le_r (le_r (le_r (le_r (le_r (le_r (le_r le_nil))))))))))) (k_end (le_r (le_r (le_r (le_r (le_r (le_r (le_r (le_r le_nil)))))))))) (fun s25 => (k_end (le_r (le_r (le_r (le_r (le_r (le_r (le_r (le_f le_nil))))))))))))) (fun s8 => (k_app rfl (ev_tup2 (ev_add (ev_var rfl) (ev_ixL (ev_var rfl) (ev_var rfl))) (ev_var rfl)) (fun v_found_27 => (k_end (le_r (le_r (le_r (le_f (le_f (le_f (le_f (le_f le_nil))))))))))))))))) (fun s2 => (k_retO rfl)))))
theorem cal_heights (T : Blt mg) (C_ : Csts p mg)  (D_ : Df p.K mg "heights" s_heights) : Cal P w p.K mg base "heights" 1 ["order", "weights"] (sp2 p true heights) := by
  obtain ⟨fa, fd, F, hm⟩ := D_.ex
  exact ⟨fa, fd, ok_heights T C_  F, hm, F.kp, F.binds fun _ _ _ _ _ _ us hl => match us, hl with | [_, _], _ => rfl⟩

/-! ## staying -/
abbrev s_staying : Stmt := top 2
theorem sc_staying : FnScope ["order", "weights", "tall", "at", "found", "row"] ["order", "weights"] (defScope s_staying) := ⟨rfl, rfl, rfl, by decide +kernel, rfl, by decide +kernel, by decide +kernel⟩
theorem ok_staying {fa : Addr} {fd : FuncData} (T : Blt mg) (C_ : Csts p mg) (c_heights : Cal P w p.K mg base "heights" 1 ["order", "weights"] (sp2 p true heights)) (F : Fun p.K "staying" "staying" s_staying fa fd) : FnOk P w p.K mg base CX0 2 fa fd ["order", "weights"] (sp2 p true staying) := by
  refine def_ok (n := 4) F sc_staying (fun _ => rfl) rfl fun cdv A outer s H E hr => ?_
  apply Exists.intro
  apply And.intro
  · exact (pss_cons (ps_set (i := 2) sc_staying.nd rfl (by first | exact Or.inl rfl | exact Or.inr rfl) (pe_cal c_heights (hr.mono (by decide)) (by rfl) (pa_cons (pv 0) (pa_cons (pv 1) pa_nil)))) (pss_cons (ps_if (pt_cmpR (xo_eqD p.K hr.units) (pv 2) (pe_lst pa_nil) (nomark _)) (pss_one (ps_ret (pe_lst pa_nil))) pss_nil) (pss_cons (ps_set (i := 3) sc_staying.nd rfl (by first | exact Or.inl rfl | exact Or.inr rfl) (xe_index p.K (by refine' pe_lc (own := [("row", 5)]) rfl sc_staying.nd ?h10i (blkOk_by (N := ["order", "weights", "tall", "at", "found", "row"]) (sc := defScope s_staying) (by decide +kernel)) ?h10g ?h10t ?h10e; (case h10i => exact (xi_list p.K (pv 2))); (case h10g => intro _ _ _ _ _; exact (pg_name (i := 5) sc_staying.nd rfl (by first | exact Or.inl rfl | exact Or.inr rfl))); (case h10t => intro _ _ _ _ _; exact pts_nil); (case h10e => intro _ _ _ _ _; exact (xe_ixT p.K (pv 5) pe_int (fun _ _ => rfl)))) (pa_cons (pe_callB (xc_max p.K) (by rfl) T.max bs_max (pa_cons (by refine' pe_lc (own := [("row", 5)]) rfl sc_staying.nd ?h14i (blkOk_by (N := ["order", "weights", "tall", "at", "found", "row"]) (sc := defScope s_staying) (by decide +kernel)) ?h14g ?h14t ?h14e; (case h14i => exact (xi_list p.K (pv 2))); (case h14g => intro _ _ _ _ _; exact (pg_name (i := 5) sc_staying.nd rfl (by first | exact Or.inl rfl | exact Or.inr rfl))); (case h14t => intro _ _ _ _ _; exact pts_nil); (case h14e => intro _ _ _ _ _; exact (xe_ixT p.K (pv 5) pe_int (fun _ _ => rfl)))) pa_nil)) pa_nil))) (pss_cons (ps_set (i := 4) sc_staying.nd rfl (by first | exact Or.inl rfl | exact Or.inr rfl) (pe_lst pa_nil)) (pss_cons (ps_while PassesOwn.never (pt_cmpR op_ge (pv 3) pe_int (nomark _)) (pss_cons (ps_expr (xe_append p.K (pv 4) (pa_cons (xe_ixL p.K (pv 0) (pv 3) (fun _ _ => rfl)) pa_nil))) (pss_cons (ps_set (i := 3) sc_staying.nd rfl (by first | exact Or.inl rfl | exact Or.inr rfl) (xe_ixT p.K (xe_ixL p.K (pv 2) (pv 3) (fun _ _ => rfl)) pe_int (fun _ _ => rfl))) pss_nil))) (pss_one (ps_ret (xe_rev p.K (pv 4)))))))))
  rintro ⟨v_order, v_weights⟩
  show Bk p _ [.va (enc (v_order : List (Int))), .va (enc (v_weights : List (Int))), .fr, .fr, .fr, .fr] (staying v_order v_weights) _
  unfold staying
  exact (k_asg ((ev_call2 (ev_var rfl) (ev_var rfl))).weak (fun v_tall_3 => (k_ifR (et_test (ev_eqD (ev_var rfl) ((ev_lst es_nil)).weak)) (k_ret (ev_lst es_nil)) (k_asg (ev_index ((ev_lc (ei_list (ev_var rfl)) (fun _ => tg_name) (fun _ h => h) (fun _ => et_yes) (fun _ => (ev_fst (ev_var rfl))))).weak (ev_max ((ev_lc (ei_list (ev_var rfl)) (fun _ => tg_name) (fun _ h => h) (fun _ => et_yes) (fun _ => (ev_fst (ev_var rfl))))).weak)) (fun v_at_18 => (k_asg (ev_lst es_nil) (fun v_found_19 => (k_seq (k_while (envS := fun (s20 : (Int) × (List (Int))) => [.va (enc (v_order : List (Int))), .va (enc (v_weights : List (Int))), .va (enc (v_tall_3 : List ((Int) × (Int)))), .va (enc (s20.1 : Int)), .ow (List.map enc (s20.2 : List (Int))), .fr]) (le_r (le_r (le_r (le_r (le_r (le_f le_nil)))))) (fun s20 => (et_test (ev_ge (ev_var rfl) ev_int))) (fun s20 => (k_app rfl (ev_ixL (ev_var rfl) (ev_var rfl)) (fun v_found_23 => (k_asg (ev_snd (ev_ixL (ev_var rfl) (ev_var rfl))) (fun v_at_30 => (k_end (le_r (le_r (le_r (le_r (le_r (le_f le_nil))))))))))))) (fun s20 => (k_freeze (i := 4) rfl (k_ret (ev_rev (ev_var rfl)))))))))))))
theorem cal_staying (T : Blt mg) (C_ : Csts p mg) (c_heights : Cal P w p.K mg base "heights" 1 ["order", "weights"] (sp2 p true heights)) (D_ : Df p.K mg "staying" s_staying) : Cal P w p.K mg base "staying" 2 ["order", "weights"] (sp2 p true staying) := by
  obtain ⟨fa, fd, F, hm⟩ := D_.ex
  exact ⟨fa, fd, ok_staying T C_ c_heights F, hm, F.kp, F.binds fun _ _ _ _ _ _ us hl => match us, hl with | [_, _], _ => rfl⟩

/-! ## paper -/
abbrev s_paper : Stmt := top 3
theorem sc_paper : FnScope ["order", "weights", "tall", "found", "step", "row", "at", "book"] ["order", "weights"] (defScope s_paper) := ⟨rfl, rfl, rfl, by decide +kernel, rfl, by decide +kernel, by decide +kernel⟩
theorem ok_paper {fa : Addr} {fd : FuncData} (T : Blt mg) (C_ : Csts p mg) (c_heights : Cal P w p.K mg base "heights" 1 ["order", "weights"] (sp2 p true heights)) (F : Fun p.K "paper" "paper" s_paper fa fd) : FnOk P w p.K mg base CX0 2 fa fd ["order", "weights"] (sp2 p true paper) := by
  refine def_ok (n := 6) F sc_paper (fun _ => rfl) rfl fun cdv A outer s H E hr => ?_
  apply Exists.intro
  apply And.intro
  · exact (pss_cons (ps_set (i := 2) sc_paper.nd rfl (by first | exact Or.inl rfl | exact Or.inr rfl) (by refine' pe_lc (own := [("row", 5)]) rfl sc_paper.nd ?h6i (blkOk_by (N := ["order", "weights", "tall", "found", "step", "row", "at", "book"]) (sc := defScope s_paper) (by decide +kernel)) ?h6g ?h6t ?h6e; (case h6i => exact (xi_list p.K (pe_cal c_heights (hr.mono (by decide)) (by rfl) (pa_cons (pv 0) (pa_cons (pv 1) pa_nil))))); (case h6g => intro _ _ _ _ _; exact (pg_name (i := 5) sc_paper.nd rfl (by first | exact Or.inl rfl | exact Or.inr rfl))); (case h6t => intro _ _ _ _ _; exact pts_nil); (case h6e => intro _ _ _ _ _; exact (xe_ixT p.K (pv 5) pe_int (fun _ _ => rfl))))) (pss_cons (ps_set (i := 3) sc_paper.nd rfl (by first | exact Or.inl rfl | exact Or.inr rfl) (pe_lst pa_nil)) (pss_cons (ps_for PassesOwn.never rfl (pi_range2 (by rfl) T.range (pa_cons pe_int (pa_cons (pe_op op_add (pe_callB (xc_max p.K) (by rfl) T.max bs_max (pa_cons (pe_op op_cat (pe_lst (pa_cons pe_int pa_nil)) (pv 2)) pa_nil)) pe_int) pa_nil))) (pg_name (i := 4) sc_paper.nd rfl (by first | exact Or.inl rfl | exact Or.inr rfl)) (pss_cons (by refine' ps_setLc (i := 5) (own := [("at", 6), ("book", 7)]) rfl sc_paper.nd rfl rfl (sw_true rfl rfl rfl (by decide +kernel)) ?h39i (blkOk_by (N := ["order", "weights", "tall", "found", "step", "row", "at", "book"]) (sc := defScope s_paper) (by decide +kernel)) ?h39g ?h39t ?h39e; (case h39i => exact (xi_enum p.K (by rfl) T.enumerate (pa_cons (pv 0) pa_nil))); (case h39g => intro _ _ _ _ _; exact (xg_tup (n := 2) p.K rfl (pgs_cons (pg_name (i := 6) sc_paper.nd rfl (by first | exact Or.inl rfl | exact Or.inr rfl)) (pgs_cons (pg_name (i := 7) sc_paper.nd rfl (by first | exact Or.inl rfl | exact Or.inr rfl)) pgs_nil)))); (case h39t => intro _ _ _ _ _; exact (pts_one (pt_chain op_lt op_le (pe_op op_sub (xe_ixL p.K (pv 2) (pv 6) (fun _ _ => rfl)) (xe_ixL p.K (pv 1) (pv 7) (fun _ _ => rfl))) (pv 4) (xe_ixL p.K (pv 2) (pv 6) (fun _ _ => rfl))))); (case h39e => intro _ _ _ _ _; exact (pv 7))) (pss_cons (ps_if (PW.pt (pw_and (pt_cmpR (xo_neD p.K hr.units) (pv 3) (pe_lst pa_nil) (nomark _)) (pw_and1 (pt_cmpR (xo_eqD p.K hr.units) (xe_ixT p.K (xe_ixL p.K (pv 3) (pe_un un_neg pe_int) (fun _ _ => rfl)) pe_int (fun _ _ => rfl)) (pv 5) (nomark _))))) (pss_cons (ps_asg (pe_tup (pa_cons (pv 5) (pa_cons (pe_op op_add (xe_ixT p.K (xe_ixL p.K (pv 3) (pe_un un_neg pe_int) (fun _ _ => rfl)) pe_int (fun _ _ => rfl)) pe_int) pa_nil))) (pg_sub (pv 3) (pe_un un_neg pe_int) set_list)) pss_nil) (pss_cons (ps_expr (xe_append p.K (pv 3) (pa_cons (pe_tup (pa_cons (pv 5) (pa_cons pe_int pa_nil))) pa_nil))) pss_nil)) pss_nil))) (pss_one (ps_ret (pv 3))))))
  rintro ⟨v_order, v_weights⟩
  show Bk p _ [.va (enc (v_order : List (Int))), .va (enc (v_weights : List (Int))), .fr, .fr, .fr, .fr, .fr, .fr] (paper v_order v_weights) _
  unfold paper
  exact (k_asg ((ev_lc (ei_list ((ev_call2 (ev_var rfl) (ev_var rfl))).weak) (fun _ => tg_name) (fun _ h => h) (fun _ => et_yes) (fun _ => (ev_fst (ev_var rfl))))).weak (fun v_tall_7 => (k_asg (ev_lst es_nil) (fun v_found_8 => (k_seq (k_for (envS := fun (s9 : (List ((List (Int)) × (Int)))) => [.va (enc (v_order : List (Int))), .va (enc (v_weights : List (Int))), .va (enc (v_tall_7 : List (Int))), .ow (List.map enc (s9 : List ((List (Int)) × (Int)))), .fr, .fr, .fr, .fr]) (ei_range2 ev_int (ev_add (ev_max ((ev_cat ((ev_lst (es_cons ev_int es_nil))).weak (ev_var rfl))).weak) ev_int)) (le_r (le_r (le_r (le_r (le_f (le_f (le_f (le_f le_nil)))))))) (fun _ _ => tg_name) (fun s9 a24 => (k_asg ((ev_lc (ei_enum (ev_var rfl)) (fun _ => (tg_tup (tgs_cons tg_name (tgs_cons tg_name tgs_nil)))) (fun _ h => h) (fun _ => (et_test (ev_chain (h := (fun (i j : Int) => decide (i < j))) (h' := (fun (i j : Int) => decide (i ≤ j))) (fun _ _ => rfl) (fun _ _ => rfl) (ev_sub (ev_ixL (ev_var rfl) (ev_var rfl)) (ev_ixL (ev_var rfl) (ev_var rfl))) (ev_var rfl) (ev_ixL (ev_var rfl) (ev_var rfl))))) (fun _ => (ev_var rfl)))).weak (fun v_row_40 => (k_seq (envN := fun (s70 : (List ((List (Int)) × (Int)))) => [.va (enc (v_order : List (Int))), .va (enc (v_weights : List (Int))), .va (enc (v_tall_7 : List (Int))), .ow (List.map enc (s70 : List ((List (Int)) × (Int)))), .va (enc (a24 : Int)), .va (enc (v_row_40 : List (Int))), .fr, .fr]) (k_if (et_and (et_test (own_neD rfl ((ev_lst es_nil)).weak)) (et_test (ev_eqD (ev_fst (own_ix rfl (ev_neg ev_int))) (ev_var rfl)))) (k_seti rfl (ev_tup2 (ev_var rfl) (ev_add (ev_snd (own_ix rfl (ev_neg ev_int))) ev_int)) (ev_neg ev_int) (fun v_found_65 => (k_end (le_r (le_r (le_r (le_r (le_r (le_r (le_f (le_f le_nil))))))))))) (k_app rfl (ev_tup2 (ev_var rfl) ev_int) (fun v_found_66 => (k_end (le_r (le_r (le_r (le_r (le_r (le_r (le_f (le_f le_nil)))))))))))) (fun s70 => (k_end (le_r (le_r (le_r (le_r (le_f (le_f (le_f (le_f le_nil))))))))))))))) (fun s9 => (k_retO rfl)))))))
theorem cal_paper (T : Blt mg) (C_ : Csts p mg) (c_heights : Cal P w p.K mg base "heights" 1 ["order", "weights"] (sp2 p true heights)) (D_ : Df p.K mg "paper" s_paper) : Cal P w p.K mg base "paper" 2 ["order", "weights"] (sp2 p true paper) := by
  obtain ⟨fa, fd, F, hm⟩ := D_.ex
  exact ⟨fa, fd, ok_paper T C_ c_heights F, hm, F.kp, F.binds fun _ _ _ _ _ _ us hl => match us, hl with | [_, _], _ => rfl⟩

/-! ## stand_right -/
abbrev s_stand_right : Stmt := top 4
theorem sc_stand_right : FnScope ["order", "one", "other"] ["order", "one", "other"] (defScope s_stand_right) := ⟨rfl, rfl, rfl, by decide +kernel, rfl, by decide +kernel, by decide +kernel⟩
theorem ok_stand_right {fa : Addr} {fd : FuncData} (T : Blt mg) (C_ : Csts p mg)  (F : Fun p.K "stand_right" "stand_right" s_stand_right fa fd) : FnOk P w p.K mg base CX0 1 fa fd ["order", "one", "other"] (sp3 p false stand_right) := by
  refine def_ok (n := 0) F sc_stand_right (fun _ => rfl) rfl fun cdv A outer s H E hr => ?_
  apply Exists.intro
  apply And.intro
  · exact (pss_one (ps_ret (pe_or (pe_cmpR op_eq (pv 1) (pv 2) (nomark _)) (pe_one (pe_cmpR op_eq (pe_cmpR op_lt (xe_index p.K (pv 0) (pa_cons (pv 1) pa_nil)) (xe_index p.K (pv 0) (pa_cons (pv 2) pa_nil)) (nomark _)) (pe_cmpR op_lt (pv 1) (pv 2) (nomark _)) (nomark _))))))
  rintro ⟨v_order, v_one, v_other⟩
  show Bk p _ [.va (enc (v_order : List (Int))), .va (enc (v_one : Int)), .va (enc (v_other : Int))] (stand_right v_order v_one v_other) _
  unfold stand_right
  exact (k_ret (ev_or (ev_eqS (ev_var rfl) (ev_var rfl)) (ev_eqS (ev_lt (ev_index (ev_var rfl) (ev_var rfl)) (ev_index (ev_var rfl) (ev_var rfl))) (ev_lt (ev_var rfl) (ev_var rfl)))))
theorem cal_stand_right (T : Blt mg) (C_ : Csts p mg)  (D_ : Df p.K mg "stand_right" s_stand_right) : Cal P w p.K mg base "stand_right" 1 ["order", "one", "other"] (sp3 p false stand_right) := by
  obtain ⟨fa, fd, F, hm⟩ := D_.ex
  exact ⟨fa, fd, ok_stand_right T C_  F, hm, F.kp, F.binds fun _ _ _ _ _ _ us hl => match us, hl with | [_, _, _], _ => rfl⟩

/-! ## free_ones -/
abbrev s_free_ones : Stmt := top 5
theorem sc_free_ones : FnScope ["order", "nailed", "book", "one"] ["order", "nailed"] (defScope s_free_ones) := ⟨rfl, rfl, rfl, by decide +kernel, rfl, by decide +kernel, by decide +kernel⟩
theorem ok_free_ones {fa : Addr} {fd : FuncData} (T : Blt mg) (C_ : Csts p mg) (c_stand_right : Cal P w p.K mg base "stand_right" 1 ["order", "one", "other"] (sp3 p false stand_right)) (F : Fun p.K "free_ones" "free_ones" s_free_ones fa fd) : FnOk P w p.K mg base CX0 2 fa fd ["order", "nailed"] (sp2 p true free_ones) := by
  refine def_ok (n := 2) F sc_free_ones (fun _ => rfl) rfl fun cdv A outer s H E hr => ?_
  apply Exists.intro
  apply And.intro
  · exact (pss_one (ps_ret (by refine' pe_lc (own := [("book", 2)]) rfl sc_free_ones.nd ?h10i (blkOk_by (N := ["order", "nailed", "book", "one"]) (sc := defScope s_free_ones) (by decide +kernel)) ?h10g ?h10t ?h10e; (case h10i => exact (xi_list p.K (pv 0))); (case h10g => intro _ _ _ _ _; exact (pg_name (i := 2) sc_free_ones.nd rfl (by first | exact Or.inl rfl | exact Or.inr rfl))); (case h10t => intro _ _ _ _ _; exact (pts_one (pt_val (pe_callB (xc_all p.K) (by rfl) T.all bs_all (pa_cons (by refine' pe_lc (own := [("one", 3)]) rfl sc_free_ones.nd ?h7i (blkOk_by (by kernel_rfl)) ?h7g ?h7t ?h7e; (case h7i => exact (xi_list p.K (pv 1))); (case h7g => intro _ _ _ _ _; exact (pg_name (i := 3) sc_free_ones.nd rfl (by first | exact Or.inl rfl | exact Or.inr rfl))); (case h7t => intro _ _ _ _ _; exact pts_nil); (case h7e => intro _ _ _ _ _; exact (pe_cal c_stand_right (hr.mono (by decide)) (by rfl) (pa_cons (pv 0) (pa_cons (pv 2) (pa_cons (pv 3) pa_nil)))))) pa_nil))))); (case h10e => intro _ _ _ _ _; exact (pv 2)))))
  rintro ⟨v_order, v_nailed⟩
  show Bk p _ [.va (enc (v_order : List (Int))), .va (enc (v_nailed : List (Int))), .fr, .fr] (free_ones v_order v_nailed) _
  unfold free_ones
  exact (k_ret (ev_lc (ei_list (ev_var rfl)) (fun _ => tg_name) (fun _ h => h) (fun _ => (et_B (ev_all ((ev_lc (ei_list (ev_var rfl)) (fun _ => tg_name) (fun _ h => h) (fun _ => et_yes) (fun _ => (ev_call3 (ev_var rfl) (ev_var rfl) (ev_var rfl))))).weak))) (fun _ => (ev_var rfl))))
theorem cal_free_ones (T : Blt mg) (C_ : Csts p mg) (c_stand_right : Cal P w p.K mg base "stand_right" 1 ["order", "one", "other"] (sp3 p false stand_right)) (D_ : Df p.K mg "free_ones" s_free_ones) : Cal P w p.K mg base "free_ones" 2 ["order", "nailed"] (sp2 p true free_ones) := by
  obtain ⟨fa, fd, F, hm⟩ := D_.ex
  exact ⟨fa, fd, ok_free_ones T C_ c_stand_right F, hm, F.kp, F.binds fun _ _ _ _ _ _ us hl => match us, hl with | [_, _], _ => rfl⟩

/-! ## clash -/
abbrev s_clash : Stmt := top 6
theorem sc_clash : FnScope ["order", "nailed", "one", "other"] ["order", "nailed"] (defScope s_clash) := ⟨rfl, rfl, rfl, by decide +kernel, rfl, by decide +kernel, by decide +kernel⟩
theorem ok_clash {fa : Addr} {fd : FuncData} (T : Blt mg) (C_ : Csts p mg) (c_stand_right : Cal P w p.K mg base "stand_right" 1 ["order", "one", "other"] (sp3 p false stand_right)) (F : Fun p.K "clash" "clash" s_clash fa fd) : FnOk P w p.K mg base CX0 2 fa fd ["order", "nailed"] (sp2 p false clash) := by
  refine def_ok (n := 2) F sc_clash (fun _ => rfl) rfl fun cdv A outer s H E hr => ?_
  apply Exists.intro
  apply And.intro
  · exact (pss_cons (ps_for PassesOwn.never rfl (xi_list p.K (pv 1)) (pg_name (i := 2) sc_clash.nd rfl (by first | exact Or.inl rfl | exact Or.inr rfl)) (pss_cons (ps_for PassesOwn.never rfl (xi_list p.K (pv 1)) (pg_name (i := 3) sc_clash.nd rfl (by first | exact Or.inl rfl | exact Or.inr rfl)) (pss_cons (ps_if (PW.pt (pw_and (pt_cmpR op_lt (pv 2) (pv 3) (nomark _)) (pw_and1 (pt_not (pt_val (pe_cal c_stand_right (hr.mono (by decide)) (by rfl) (pa_cons (pv 0) (pa_cons (pv 2) (pa_cons (pv 3) pa_nil))))))))) (pss_one (ps_ret (pe_tup (pa_cons (pv 2) (pa_cons (pv 3) pa_nil))))) pss_nil) pss_nil)) pss_nil)) (pss_one (ps_ret pe_non)))
  rintro ⟨v_order, v_nailed⟩
  show Bk p _ [.va (enc (v_order : List (Int))), .va (enc (v_nailed : List (Int))), .fr, .fr] (clash v_order v_nailed) _
  unfold clash
  exact (k_seqR (k_forB (envS := fun (s1 : Unit) => [.va (enc (v_order : List (Int))), .va (enc (v_nailed : List (Int))), .fr, .fr]) (ei_list (ev_var rfl)) (le_r (le_r (le_f (le_f le_nil)))) (fun _ _ => tg_name) (fun s1 a2 => (k_seqB (k_forB (envS := fun (s3 : Unit) => [.va (enc (v_order : List (Int))), .va (enc (v_nailed : List (Int))), .va (enc (a2 : Int)), .fr]) (ei_list (ev_var rfl)) (le_r (le_r (le_r (le_f le_nil)))) (fun _ _ => tg_name) (fun s3 a4 => (k_ifB (et_and (et_test (ev_lt (ev_var rfl) (ev_var rfl))) (et_not (et_B (ev_call3 (ev_var rfl) (ev_var rfl) (ev_var rfl))))) (k_ret (ev_some (ev_tup2 (ev_var rfl) (ev_var rfl)))) (k_endB (le_r (le_r (le_r (le_f le_nil)))))))) (fun s3 => (k_endB (le_r (le_r (le_f (le_f le_nil))))))))) (fun s1 => (k_ret ev_nonO)))
theorem cal_clash (T : Blt mg) (C_ : Csts p mg) (c_stand_right : Cal P w p.K mg base "stand_right" 1 ["order", "one", "other"] (sp3 p false stand_right)) (D_ : Df p.K mg "clash" s_clash) : Cal P w p.K mg base "clash" 2 ["order", "nailed"] (sp2 p false clash) := by
  obtain ⟨fa, fd, F, hm⟩ := D_.ex
  exact ⟨fa, fd, ok_clash T C_ c_stand_right F, hm, F.kp, F.binds fun _ _ _ _ _ _ us hl => match us, hl with | [_, _], _ => rfl⟩

/-! ## weight_of -/
abbrev s_weight_of : Stmt := top 7
theorem sc_weight_of : FnScope ["weights", "books", "book"] ["weights", "books"] (defScope s_weight_of) := ⟨rfl, rfl, rfl, by decide +kernel, rfl, by decide +kernel, by decide +kernel⟩
theorem ok_weight_of {fa : Addr} {fd : FuncData} (T : Blt mg) (C_ : Csts p mg)  (F : Fun p.K "weight_of" "weight_of" s_weight_of fa fd) : FnOk P w p.K mg base CX0 1 fa fd ["weights", "books"] (sp2 p false weight_of) := by
  refine def_ok (n := 1) F sc_weight_of (fun _ => rfl) rfl fun cdv A outer s H E hr => ?_
  apply Exists.intro
  apply And.intro
  · exact (pss_one (ps_ret (pe_callB (xc_sum p.K) (by rfl) T.sum bs_sum (pa_cons (by refine' pe_lc (own := [("book", 2)]) rfl sc_weight_of.nd ?h5i (blkOk_by (N := ["weights", "books", "book"]) (sc := defScope s_weight_of) (by decide +kernel)) ?h5g ?h5t ?h5e; (case h5i => exact (xi_list p.K (pv 1))); (case h5g => intro _ _ _ _ _; exact (pg_name (i := 2) sc_weight_of.nd rfl (by first | exact Or.inl rfl | exact Or.inr rfl))); (case h5t => intro _ _ _ _ _; exact pts_nil); (case h5e => intro _ _ _ _ _; exact (xe_ixL p.K (pv 0) (pv 2) (fun _ _ => rfl)))) pa_nil))))
  rintro ⟨v_weights, v_books⟩
  show Bk p _ [.va (enc (v_weights : List (Int))), .va (enc (v_books : List (Int))), .fr] (weight_of v_weights v_books) _
  unfold weight_of
  exact (k_ret (ev_sum ((ev_lc (ei_list (ev_var rfl)) (fun _ => tg_name) (fun _ h => h) (fun _ => et_yes) (fun _ => (ev_ixL (ev_var rfl) (ev_var rfl))))).weak))
theorem cal_weight_of (T : Blt mg) (C_ : Csts p mg)  (D_ : Df p.K mg "weight_of" s_weight_of) : Cal P w p.K mg base "weight_of" 1 ["weights", "books"] (sp2 p false weight_of) := by
  obtain ⟨fa, fd, F, hm⟩ := D_.ex
  exact ⟨fa, fd, ok_weight_of T C_  F, hm, F.kp, F.binds fun _ _ _ _ _ _ us hl => match us, hl with | [_, _], _ => rfl⟩

/-! ## are_in -/
abbrev s_are_in : Stmt := top 8
theorem sc_are_in : FnScope ["order", "books", "places", "book", "one", "other"] ["order", "books"] (defScope s_are_in) := ⟨rfl, rfl, rfl, by decide +kernel, rfl, by decide +kernel, by decide +kernel⟩
theorem ok_are_in {fa : Addr} {fd : FuncData} (T : Blt mg) (C_ : Csts p mg)  (F : Fun p.K "are_in" "are_in" s_are_in fa fd) : FnOk P w p.K mg base CX0 1 fa fd ["order", "books"] (sp2 p false are_in) := by
  refine def_ok (n := 4) F sc_are_in (fun _ => rfl) rfl fun cdv A outer s H E hr => ?_
  apply Exists.intro
  apply And.intro
  · exact (pss_cons (ps_if (pt_not (pt_val (pe_callB (xc_all p.K) (by rfl) T.all bs_all (pa_cons (by refine' pe_lc (own := [("book", 3)]) rfl sc_are_in.nd ?h5i (blkOk_by (N := ["order", "books", "places", "book", "one", "other"]) (sc := defScope s_are_in) (by decide +kernel)) ?h5g ?h5t ?h5e; (case h5i => exact (xi_list p.K (pv 1))); (case h5g => intro _ _ _ _ _; exact (pg_name (i := 3) sc_are_in.nd rfl (by first | exact Or.inl rfl | exact Or.inr rfl))); (case h5t => intro _ _ _ _ _; exact pts_nil); (case h5e => intro _ _ _ _ _; exact (pe_cmpR (xo_in p.K) (pv 3) (pv 0) rfl))) pa_nil)))) (pss_one (ps_ret pe_bl)) pss_nil) (pss_cons (by refine' ps_setLc (i := 2) (own := [("book", 3)]) rfl sc_are_in.nd rfl rfl (sw_true rfl rfl rfl (by decide +kernel)) ?h13i (blkOk_by (N := ["order", "books", "places", "book", "one", "other"]) (sc := defScope s_are_in) (by decide +kernel)) ?h13g ?h13t ?h13e; (case h13i => exact (xi_list p.K (pv 1))); (case h13g => intro _ _ _ _ _; exact (pg_name (i := 3) sc_are_in.nd rfl (by first | exact Or.inl rfl | exact Or.inr rfl))); (case h13t => intro _ _ _ _ _; exact pts_nil); (case h13e => intro _ _ _ _ _; exact (xe_index p.K (pv 0) (pa_cons (pv 3) pa_nil)))) (pss_one (ps_ret (pe_not (pe_callB (xc_any p.K) (by rfl) T.any bs_any (pa_cons (by refine' pe_lc (own := [("one", 4), ("other", 5)]) rfl sc_are_in.nd ?h25i (blkOk_by (N := ["order", "books", "places", "book", "one", "other"]) (sc := defScope s_are_in) (by decide +kernel)) ?h25g ?h25t ?h25e; (case h25i => exact (xi_zip p.K (by rfl) T.zip (pa_cons (pv 2) (pa_cons (pe_slice (xs_list p.K) (pv 2) (po_some pe_int) po_none) pa_nil)))); (case h25g => intro _ _ _ _ _; exact (xg_tup (n := 2) p.K rfl (pgs_cons (pg_name (i := 4) sc_are_in.nd rfl (by first | exact Or.inl rfl | exact Or.inr rfl)) (pgs_cons (pg_name (i := 5) sc_are_in.nd rfl (by first | exact Or.inl rfl | exact Or.inr rfl)) pgs_nil)))); (case h25t => intro _ _ _ _ _; exact pts_nil); (case h25e => intro _ _ _ _ _; exact (pe_cmpR op_ge (pv 4) (pv 5) (nomark _)))) pa_nil)))))))
  rintro ⟨v_order, v_books⟩
  show Bk p _ [.va (enc (v_order : List (Int))), .va (enc (v_books : List (Int))), .fr, .fr, .fr, .fr] (are_in v_order v_books) _
  unfold are_in
  exact (k_ifR (et_not (et_B (ev_all ((ev_lc (ei_list (ev_var rfl)) (fun _ => tg_name) (fun _ h => h) (fun _ => et_yes) (fun _ => (ev_in (ev_var rfl) (ev_var rfl))))).weak))) (k_ret ev_bl) (k_asg ((ev_lc (ei_list (ev_var rfl)) (fun _ => tg_name) (fun _ h => h) (fun _ => et_yes) (fun _ => (ev_index (ev_var rfl) (ev_var rfl))))).weak (fun v_places_14 => (k_ret (ev_not (ev_any ((ev_lc (ei_zip (ev_var rfl) ((ev_slice (ev_var rfl) (eo_some ev_int) eo_none)).weak) (fun _ => (tg_tup (tgs_cons tg_name (tgs_cons tg_name tgs_nil)))) (fun _ h => h) (fun _ => et_yes) (fun _ => (ev_ge (ev_var rfl) (ev_var rfl))))).weak))))))
theorem cal_are_in (T : Blt mg) (C_ : Csts p mg)  (D_ : Df p.K mg "are_in" s_are_in) : Cal P w p.K mg base "are_in" 1 ["order", "books"] (sp2 p false are_in) := by
  obtain ⟨fa, fd, F, hm⟩ := D_.ex
  exact ⟨fa, fd, ok_are_in T C_  F, hm, F.kp, F.binds fun _ _ _ _ _ _ us hl => match us, hl with | [_, _], _ => rfl⟩

/-! ## is_staying -/
abbrev s_is_staying : Stmt := top 9
theorem sc_is_staying : FnScope ["order", "books", "one", "other"] ["order", "books"] (defScope s_is_staying) := ⟨rfl, rfl, rfl, by decide +kernel, rfl, by decide +kernel, by decide +kernel⟩
theorem ok_is_staying {fa : Addr} {fd : FuncData} (T : Blt mg) (C_ : Csts p mg) (c_are_in : Cal P w p.K mg base "are_in" 1 ["order", "books"] (sp2 p false are_in)) (F : Fun p.K "is_staying" "is_staying" s_is_staying fa fd) : FnOk P w p.K mg base CX0 2 fa fd ["order", "books"] (sp2 p false is_staying) := by
  refine def_ok (n := 2) F sc_is_staying (fun _ => rfl) rfl fun cdv A outer s H E hr => ?_
  apply Exists.intro
  apply And.intro
  · exact (pss_one (ps_ret (pe_and (pe_cal c_are_in (hr.mono (by decide)) (by rfl) (pa_cons (pv 0) (pa_cons (pv 1) pa_nil))) (pe_one (pe_not (pe_callB (xc_any p.K) (by rfl) T.any bs_any (pa_cons (by refine' pe_lc (own := [("one", 2), ("other", 3)]) rfl sc_is_staying.nd ?h13i (blkOk_by (N := ["order", "books", "one", "other"]) (sc := defScope s_is_staying) (by decide +kernel)) ?h13g ?h13t ?h13e; (case h13i => exact (xi_zip p.K (by rfl) T.zip (pa_cons (pv 1) (pa_cons (pe_slice (xs_list p.K) (pv 1) (po_some pe_int) po_none) pa_nil)))); (case h13g => intro _ _ _ _ _; exact (xg_tup (n := 2) p.K rfl (pgs_cons (pg_name (i := 2) sc_is_staying.nd rfl (by first | exact Or.inl rfl | exact Or.inr rfl)) (pgs_cons (pg_name (i := 3) sc_is_staying.nd rfl (by first | exact Or.inl rfl | exact Or.inr rfl)) pgs_nil)))); (case h13t => intro _ _ _ _ _; exact pts_nil); (case h13e => intro _ _ _ _ _; exact (pe_cmpR op_ge (pv 2) (pv 3) (nomark _)))) pa_nil)))))))
  rintro ⟨v_order, v_books⟩
  show Bk p _ [.va (enc (v_order : List (Int))), .va (enc (v_books : List (Int))), .fr, .fr] (is_staying v_order v_books) _
  unfold is_staying
  exact (k_ret (ev_and (ev_call2 (ev_var rfl) (ev_var rfl)) (ev_not (ev_any ((ev_lc (ei_zip (ev_var rfl) ((ev_slice (ev_var rfl) (eo_some ev_int) eo_none)).weak) (fun _ => (tg_tup (tgs_cons tg_name (tgs_cons tg_name tgs_nil)))) (fun _ h => h) (fun _ => et_yes) (fun _ => (ev_ge (ev_var rfl) (ev_var rfl))))).weak))))
theorem cal_is_staying (T : Blt mg) (C_ : Csts p mg) (c_are_in : Cal P w p.K mg base "are_in" 1 ["order", "books"] (sp2 p false are_in)) (D_ : Df p.K mg "is_staying" s_is_staying) : Cal P w p.K mg base "is_staying" 2 ["order", "books"] (sp2 p false is_staying) := by
  obtain ⟨fa, fd, F, hm⟩ := D_.ex
  exact ⟨fa, fd, ok_is_staying T C_ c_are_in F, hm, F.kp, F.binds fun _ _ _ _ _ _ us hl => match us, hl with | [_, _], _ => rfl⟩

/-! ## is_whole -/
abbrev s_is_whole : Stmt := top 23
theorem sc_is_whole : FnScope ["thing"] ["thing"] (defScope s_is_whole) := ⟨rfl, rfl, rfl, by decide +kernel, rfl, by decide +kernel, by decide +kernel⟩
theorem ok_is_whole {fa : Addr} {fd : FuncData} (T : Blt mg) (C_ : Csts p mg)  (F : Fun p.K "is_whole" "is_whole" s_is_whole fa fd) : FnOk P w p.K mg base CX0 1 fa fd ["thing"] (sp1 p false is_whole) := by
  refine def_ok (n := 0) F sc_is_whole (fun _ => rfl) rfl fun cdv A outer s H E hr => ?_
  apply Exists.intro
  apply And.intro
  · exact (pss_one (ps_ret (pe_and (pe_callB (xc_isi p.K) (by rfl) T.isinstance bs_isinstance (pa_cons (pv 0) (pa_cons (pe_bltn (v := .ty "int") (by rfl) T.int bs_int rfl) pa_nil))) (pe_one (pe_not (pe_callB (xc_isi p.K) (by rfl) T.isinstance bs_isinstance (pa_cons (pv 0) (pa_cons (pe_bltn (v := .ty "bool") (by rfl) T.bool bs_bool rfl) pa_nil))))))))
  intro v_thing
  show Bk p _ [.va (enc (v_thing : Int))] (is_whole v_thing) _
  unfold is_whole
  exact (k_ret (ev_and (ev_isi (ev_var rfl) (by decide +kernel)) (ev_not (ev_isi (ev_var rfl) (by decide +kernel)))))
theorem cal_is_whole (T : Blt mg) (C_ : Csts p mg)  (D_ : Df p.K mg "is_whole" s_is_whole) : Cal P w p.K mg base "is_whole" 1 ["thing"] (sp1 p false is_whole) := by
  obtain ⟨fa, fd, F, hm⟩ := D_.ex
  exact ⟨fa, fd, ok_is_whole T C_  F, hm, F.kp, F.binds fun _ _ _ _ _ _ us hl => match us, hl with | [_], _ => rfl⟩

/-! ## is_between -/
abbrev s_is_between : Stmt := top 24
theorem sc_is_between : FnScope ["thing", "least", "most"] ["thing", "least", "most"] (defScope s_is_between) := ⟨rfl, rfl, rfl, by decide +kernel, rfl, by decide +kernel, by decide +kernel⟩
theorem ok_is_between {fa : Addr} {fd : FuncData} (T : Blt mg) (C_ : Csts p mg) (c_is_whole : Cal P w p.K mg base "is_whole" 1 ["thing"] (sp1 p false is_whole)) (F : Fun p.K "is_between" "is_between" s_is_between fa fd) : FnOk P w p.K mg base CX0 2 fa fd ["thing", "least", "most"] (sp3 p false is_between) := by
  refine def_ok (n := 0) F sc_is_between (fun _ => rfl) rfl fun cdv A outer s H E hr => ?_
  apply Exists.intro
  apply And.intro
  · exact (pss_one (ps_ret (pe_and (pe_cal c_is_whole (hr.mono (by decide)) (by rfl) (pa_cons (pv 0) pa_nil)) (pe_one (pe_chain op_le op_le (pv 1) (pv 0) (pv 2))))))
  rintro ⟨v_thing, v_least, v_most⟩
  show Bk p _ [.va (enc (v_thing : Int)), .va (enc (v_least : Int)), .va (enc (v_most : Int))] (is_between v_thing v_least v_most) _
  unfold is_between
  exact (k_ret (ev_and (ev_call1 (ev_var rfl)) (ev_chain (h := (fun (i j : Int) => decide (i ≤ j))) (h' := (fun (i j : Int) => decide (i ≤ j))) (fun _ _ => rfl) (fun _ _ => rfl) (ev_var rfl) (ev_var rfl) (ev_var rfl))))
theorem cal_is_between (T : Blt mg) (C_ : Csts p mg) (c_is_whole : Cal P w p.K mg base "is_whole" 1 ["thing"] (sp1 p false is_whole)) (D_ : Df p.K mg "is_between" s_is_between) : Cal P w p.K mg base "is_between" 2 ["thing", "least", "most"] (sp3 p false is_between) := by
  obtain ⟨fa, fd, F, hm⟩ := D_.ex
  exact ⟨fa, fd, ok_is_between T C_ c_is_whole F, hm, F.kp, F.binds fun _ _ _ _ _ _ us hl => match us, hl with | [_, _, _], _ => rfl⟩

/-! ## are_books -/
abbrev s_are_books : Stmt := top 25
theorem sc_are_books : FnScope ["thing", "many", "book"] ["thing", "many"] (defScope s_are_books) := ⟨rfl, rfl, rfl, by decide +kernel, rfl, by decide +kernel, by decide +kernel⟩
theorem ok_are_books {fa : Addr} {fd : FuncData} (T : Blt mg) (C_ : Csts p mg) (c_is_whole : Cal P w p.K mg base "is_whole" 1 ["thing"] (sp1 p false is_whole)) (F : Fun p.K "are_books" "are_books" s_are_books fa fd) : FnOk P w p.K mg base CX0 2 fa fd ["thing", "many"] (sp2 p false are_books) := by
  refine def_ok (n := 1) F sc_are_books (fun _ => rfl) rfl fun cdv A outer s H E hr => ?_
  apply Exists.intro
  apply And.intro
  · exact (pss_cons (ps_if (PW.pt (pw_or (pt_not (pt_val (pe_callB (xc_isi p.K) (by rfl) T.isinstance bs_isinstance (pa_cons (pv 0) (pa_cons (pe_bltn (v := .ty "list") (by rfl) T.list bs_list rfl) pa_nil))))) (pw_or1 (pt_not (pt_val (pe_callB (xc_all p.K) (by rfl) T.all bs_all (pa_cons (by refine' pe_lc (own := [("book", 2)]) rfl sc_are_books.nd ?h5i (blkOk_by (N := ["thing", "many", "book"]) (sc := defScope s_are_books) (by decide +kernel)) ?h5g ?h5t ?h5e; (case h5i => exact (xi_list p.K (pv 0))); (case h5g => intro _ _ _ _ _; exact (pg_name (i := 2) sc_are_books.nd rfl (by first | exact Or.inl rfl | exact Or.inr rfl))); (case h5t => intro _ _ _ _ _; exact pts_nil); (case h5e => intro _ _ _ _ _; exact (pe_cal c_is_whole (hr.mono (by decide)) (by rfl) (pa_cons (pv 2) pa_nil)))) pa_nil))))))) (pss_one (ps_ret pe_bl)) pss_nil) (pss_one (ps_ret (pe_cmpR (xo_eqD p.K hr.units) (pe_callB (xc_sorted p.K) (by rfl) T.sorted bs_sorted (pa_cons (pv 0) pa_nil)) (pe_listRg rfl (by rfl) T.list (prg_1 (by rfl) T.range (pv 1))) (nomark _)))))
  rintro ⟨v_thing, v_many⟩
  show Bk p _ [.va (enc (v_thing : List (Int))), .va (enc (v_many : Int)), .fr] (are_books v_thing v_many) _
  unfold are_books
  exact (k_ifR (et_or (et_not (et_B (ev_isi (ev_var rfl) (by decide +kernel)))) (et_not (et_B (ev_all ((ev_lc (ei_list (ev_var rfl)) (fun _ => tg_name) (fun _ h => h) (fun _ => et_yes) (fun _ => (ev_call1 (ev_var rfl))))).weak)))) (k_ret ev_bl) (k_ret (ev_eqD ((ev_sorted (ev_var rfl))).weak ((ev_listRg (ev_var rfl))).weak)))
theorem cal_are_books (T : Blt mg) (C_ : Csts p mg) (c_is_whole : Cal P w p.K mg base "is_whole" 1 ["thing"] (sp1 p false is_whole)) (D_ : Df p.K mg "are_books" s_are_books) : Cal P w p.K mg base "are_books" 2 ["thing", "many"] (sp2 p false are_books) := by
  obtain ⟨fa, fd, F, hm⟩ := D_.ex
  exact ⟨fa, fd, ok_are_books T C_ c_is_whole F, hm, F.kp, F.binds fun _ _ _ _ _ _ us hl => match us, hl with | [_, _], _ => rfl⟩

/-! ## check_weights -/
abbrev s_check_weights : Stmt := top 26
theorem sc_check_weights : FnScope ["many", "weights", "weight"] ["many", "weights"] (defScope s_check_weights) := ⟨rfl, rfl, rfl, by decide +kernel, rfl, by decide +kernel, by decide +kernel⟩
theorem ok_check_weights {fa : Addr} {fd : FuncData} (T : Blt mg) (C_ : Csts p mg) (c_is_between : Cal P w p.K mg base "is_between" 2 ["thing", "least", "most"] (sp3 p false is_between)) (F : Fun p.K "check_weights" "check_weights" s_check_weights fa fd) : FnOk P w p.K mg base CX0 3 fa fd ["many", "weights"] (sp2 p false check_weights) := by
  refine def_okU (n := 1) F sc_check_weights (fun _ => rfl) rfl fun cdv A outer s H E hr => ?_
  apply Exists.intro
  apply And.intro
  · exact (pss_cons (ps_if (PW.pt (pw_or (pt_not (pt_val (pe_callB (xc_isi p.K) (by rfl) T.isinstance bs_isinstance (pa_cons (pv 1) (pa_cons (pe_bltn (v := .ty "list") (by rfl) T.list bs_list rfl) pa_nil))))) (pw_or1 (pt_cmpR op_ne (pe_callB (xc_len p.K) (by rfl) T.len bs_len (pa_cons (pv 1) pa_nil)) (pv 0) (nomark _))))) (pss_one ps_never) pss_nil) (pss_cons (ps_if (pt_not (pt_val (pe_callB (xc_all p.K) (by rfl) T.all bs_all (pa_cons (by refine' pe_lc (own := [("weight", 2)]) rfl sc_check_weights.nd ?h13i (blkOk_by (N := ["many", "weights", "weight"]) (sc := defScope s_check_weights) (by decide +kernel)) ?h13g ?h13t ?h13e; (case h13i => exact (xi_list p.K (pv 1))); (case h13g => intro _ _ _ _ _; exact (pg_name (i := 2) sc_check_weights.nd rfl (by first | exact Or.inl rfl | exact Or.inr rfl))); (case h13t => intro _ _ _ _ _; exact pts_nil); (case h13e => intro _ _ _ _ _; exact (pe_cal c_is_between (hr.mono (by decide)) (by rfl) (pa_cons (pv 2) (pa_cons pe_int (pa_cons (pe_cst C_.MOST_WEIGHT (by rfl)) pa_nil)))))) pa_nil)))) (pss_one ps_never) pss_nil) pss_nil))
  rintro ⟨v_many, v_weights⟩
  show Bk p _ [.va (enc (v_many : Int)), .va (enc (v_weights : List (Int))), .fr] (check_weights v_many v_weights) _
  unfold check_weights
  exact (k_ifX (et_or (et_not (et_B (ev_isi (ev_var rfl) (by decide +kernel)))) (et_test (ev_neS (ev_len (ev_var rfl)) (ev_var rfl)))) (k_ifX (et_not (et_B (ev_all ((ev_lc (ei_list (ev_var rfl)) (fun _ => tg_name) (fun _ h => h) (fun _ => et_yes) (fun _ => (ev_call3 (ev_var rfl) ev_int ev_int)))).weak))) k_endU))
theorem cal_check_weights (T : Blt mg) (C_ : Csts p mg) (c_is_between : Cal P w p.K mg base "is_between" 2 ["thing", "least", "most"] (sp3 p false is_between)) (D_ : Df p.K mg "check_weights" s_check_weights) : Cal P w p.K mg base "check_weights" 3 ["many", "weights"] (sp2 p false check_weights) := by
  obtain ⟨fa, fd, F, hm⟩ := D_.ex
  exact ⟨fa, fd, ok_check_weights T C_ c_is_between F, hm, F.kp, F.binds fun _ _ _ _ _ _ us hl => match us, hl with | [_, _], _ => rfl⟩

/-! ## check_all -/
abbrev s_check_all : Stmt := top 27
theorem sc_check_all : FnScope ["order", "weights", "most"] ["order", "weights", "most"] (defScope s_check_all) := ⟨rfl, rfl, rfl, by decide +kernel, rfl, by decide +kernel, by decide +kernel⟩
theorem ok_check_all {fa : Addr} {fd : FuncData} (T : Blt mg) (C_ : Csts p mg) (c_are_books : Cal P w p.K mg base "are_books" 2 ["thing", "many"] (sp2 p false are_books)) (c_check_weights : Cal P w p.K mg base "check_weights" 3 ["many", "weights"] (sp2 p false check_weights)) (F : Fun p.K "check_all" "check_all" s_check_all fa fd) : FnOk P w p.K mg base CX0 4 fa fd ["order", "weights", "most"] (sp3 p false check_all) := by
  refine def_okU (n := 0) F sc_check_all (fun _ => rfl) rfl fun cdv A outer s H E hr => ?_
  apply Exists.intro
  apply And.intro
  · exact (pss_cons (ps_if (PW.pt (pw_or (pt_not (pt_val (pe_callB (xc_isi p.K) (by rfl) T.isinstance bs_isinstance (pa_cons (pv 0) (pa_cons (pe_bltn (v := .ty "list") (by rfl) T.list bs_list rfl) pa_nil))))) (pw_or (pt_not (pt_chain op_le op_le pe_int (pe_callB (xc_len p.K) (by rfl) T.len bs_len (pa_cons (pv 0) pa_nil)) (pv 2))) (pw_or1 (pt_not (pt_val (pe_cal c_are_books (hr.mono (by decide)) (by rfl) (pa_cons (pv 0) (pa_cons (pe_callB (xc_len p.K) (by rfl) T.len bs_len (pa_cons (pv 0) pa_nil)) pa_nil))))))))) (pss_one ps_never) pss_nil) (pss_cons (ps_expr (pe_cal c_check_weights (hr.mono (by decide)) (by rfl) (pa_cons (pe_callB (xc_len p.K) (by rfl) T.len bs_len (pa_cons (pv 0) pa_nil)) (pa_cons (pv 1) pa_nil)))) pss_nil))
  rintro ⟨v_order, v_weights, v_most⟩
  show Bk p _ [.va (enc (v_order : List (Int))), .va (enc (v_weights : List (Int))), .va (enc (v_most : Int))] (check_all v_order v_weights v_most) _
  unfold check_all
  exact (k_ifX (et_or (et_not (et_B (ev_isi (ev_var rfl) (by decide +kernel)))) (et_or (et_not (et_test (ev_chain (h := (fun (i j : Int) => decide (i ≤ j))) (h' := (fun (i j : Int) => decide (i ≤ j))) (fun _ _ => rfl) (fun _ _ => rfl) ev_int (ev_len (ev_var rfl)) (ev_var rfl)))) (et_not (et_B (ev_call2 (ev_var rfl) (ev_len (ev_var rfl))))))) (k_drop (ev_call2 (ev_len (ev_var rfl)) (ev_var rfl)) (fun x17 => k_endU)))
theorem cal_check_all (T : Blt mg) (C_ : Csts p mg) (c_are_books : Cal P w p.K mg base "are_books" 2 ["thing", "many"] (sp2 p false are_books)) (c_check_weights : Cal P w p.K mg base "check_weights" 3 ["many", "weights"] (sp2 p false check_weights)) (D_ : Df p.K mg "check_all" s_check_all) : Cal P w p.K mg base "check_all" 4 ["order", "weights", "most"] (sp3 p false check_all) := by
  obtain ⟨fa, fd, F, hm⟩ := D_.ex
  exact ⟨fa, fd, ok_check_all T C_ c_are_books c_check_weights F, hm, F.kp, F.binds fun _ _ _ _ _ _ us hl => match us, hl with | [_, _, _], _ => rfl⟩

/-! ## check_nailed -/
abbrev s_check_nailed : Stmt := top 28
theorem sc_check_nailed : FnScope ["many", "nailed", "book", "one", "other"] ["many", "nailed"] (defScope s_check_nailed) := ⟨rfl, rfl, rfl, by decide +kernel, rfl, by decide +kernel, by decide +kernel⟩
theorem ok_check_nailed {fa : Addr} {fd : FuncData} (T : Blt mg) (C_ : Csts p mg) (c_is_between : Cal P w p.K mg base "is_between" 2 ["thing", "least", "most"] (sp3 p false is_between)) (F : Fun p.K "check_nailed" "check_nailed" s_check_nailed fa fd) : FnOk P w p.K mg base CX0 3 fa fd ["many", "nailed"] (sp2 p false check_nailed) := by
  refine def_okU (n := 3) F sc_check_nailed (fun _ => rfl) rfl fun cdv A outer s H E hr => ?_
  apply Exists.intro
  apply And.intro
  · exact (pss_cons (ps_if (PW.pt (pw_or (pt_not (pt_val (pe_callB (xc_isi p.K) (by rfl) T.isinstance bs_isinstance (pa_cons (pv 1) (pa_cons (pe_bltn (v := .ty "list") (by rfl) T.list bs_list rfl) pa_nil))))) (pw_or1 (pt_not (pt_val (pe_callB (xc_all p.K) (by rfl) T.all bs_all (pa_cons (by refine' pe_lc (own := [("book", 2)]) rfl sc_check_nailed.nd ?h9i (blkOk_by (N := ["many", "nailed", "book", "one", "other"]) (sc := defScope s_check_nailed) (by decide +kernel)) ?h9g ?h9t ?h9e; (case h9i => exact (xi_list p.K (pv 1))); (case h9g => intro _ _ _ _ _; exact (pg_name (i := 2) sc_check_nailed.nd rfl (by first | exact Or.inl rfl | exact Or.inr rfl))); (case h9t => intro _ _ _ _ _; exact pts_nil); (case h9e => intro _ _ _ _ _; exact (pe_cal c_is_between (hr.mono (by decide)) (by rfl) (pa_cons (pv 2) (pa_cons pe_int (pa_cons (pe_op op_sub (pv 0) pe_int) pa_nil)))))) pa_nil))))))) (pss_one ps_never) pss_nil) (pss_cons (ps_if (pt_val (pe_callB (xc_any p.K) (by rfl) T.any bs_any (pa_cons (by refine' pe_lc (own := [("one", 3), ("other", 4)]) rfl sc_check_nailed.nd ?h24i (blkOk_by (N := ["many", "nailed", "book", "one", "other"]) (sc := defScope s_check_nailed) (by decide +kernel)) ?h24g ?h24t ?h24e; (case h24i => exact (xi_zip p.K (by rfl) T.zip (pa_cons (pv 1) (pa_cons (pe_slice (xs_list p.K) (pv 1) (po_some pe_int) po_none) pa_nil)))); (case h24g => intro _ _ _ _ _; exact (xg_tup (n := 2) p.K rfl (pgs_cons (pg_name (i := 3) sc_check_nailed.nd rfl (by first | exact Or.inl rfl | exact Or.inr rfl)) (pgs_cons (pg_name (i := 4) sc_check_nailed.nd rfl (by first | exact Or.inl rfl | exact Or.inr rfl)) pgs_nil)))); (case h24t => intro _ _ _ _ _; exact pts_nil); (case h24e => intro _ _ _ _ _; exact (pe_cmpR op_ge (pv 3) (pv 4) (nomark _)))) pa_nil))) (pss_one ps_never) pss_nil) pss_nil))
  rintro ⟨v_many, v_nailed⟩
  show Bk p _ [.va (enc (v_many : Int)), .va (enc (v_nailed : List (Int))), .fr, .fr, .fr] (check_nailed v_many v_nailed) _
  unfold check_nailed
  exact (k_ifX (et_or (et_not (et_B (ev_isi (ev_var rfl) (by decide +kernel)))) (et_not (et_B (ev_all ((ev_lc (ei_list (ev_var rfl)) (fun _ => tg_name) (fun _ h => h) (fun _ => et_yes) (fun _ => (ev_call3 (ev_var rfl) ev_int (ev_sub (ev_var rfl) ev_int))))).weak)))) (k_ifX (et_B (ev_any ((ev_lc (ei_zip (ev_var rfl) ((ev_slice (ev_var rfl) (eo_some ev_int) eo_none)).weak) (fun _ => (tg_tup (tgs_cons tg_name (tgs_cons tg_name tgs_nil)))) (fun _ h => h) (fun _ => et_yes) (fun _ => (ev_ge (ev_var rfl) (ev_var rfl))))).weak)) k_endU))
theorem cal_check_nailed (T : Blt mg) (C_ : Csts p mg) (c_is_between : Cal P w p.K mg base "is_between" 2 ["thing", "least", "most"] (sp3 p false is_between)) (D_ : Df p.K mg "check_nailed" s_check_nailed) : Cal P w p.K mg base "check_nailed" 3 ["many", "nailed"] (sp2 p false check_nailed) := by
  obtain ⟨fa, fd, F, hm⟩ := D_.ex
  exact ⟨fa, fd, ok_check_nailed T C_ c_is_between F, hm, F.kp, F.binds fun _ _ _ _ _ _ us hl => match us, hl with | [_, _], _ => rfl⟩

/-! ## check_three -/
abbrev s_check_three : Stmt := top 30
theorem sc_check_three : FnScope ["order", "weights", "nailed"] ["order", "weights", "nailed"] (defScope s_check_three) := ⟨rfl, rfl, rfl, by decide +kernel, rfl, by decide +kernel, by decide +kernel⟩
theorem ok_check_three {fa : Addr} {fd : FuncData} (T : Blt mg) (C_ : Csts p mg) (c_check_all : Cal P w p.K mg base "check_all" 4 ["order", "weights", "most"] (sp3 p false check_all)) (c_check_nailed : Cal P w p.K mg base "check_nailed" 3 ["many", "nailed"] (sp2 p false check_nailed)) (F : Fun p.K "check_three" "check_three" s_check_three fa fd) : FnOk P w p.K mg base CX0 5 fa fd ["order", "weights", "nailed"] (sp3 p false check_three) := by
  refine def_okU (n := 0) F sc_check_three (fun _ => rfl) rfl fun cdv A outer s H E hr => ?_
  apply Exists.intro
  apply And.intro
  · exact (pss_cons (ps_expr (pe_cal c_check_all (hr.mono (by decide)) (by rfl) (pa_cons (pv 0) (pa_cons (pv 1) (pa_cons (pe_cst C_.MOST_BOOKS (by rfl)) pa_nil))))) (pss_cons (ps_expr (pe_cal c_check_nailed (hr.mono (by decide)) (by rfl) (pa_cons (pe_callB (xc_len p.K) (by rfl) T.len bs_len (pa_cons (pv 0) pa_nil)) (pa_cons (pv 2) pa_nil)))) pss_nil))
  rintro ⟨v_order, v_weights, v_nailed⟩
  show Bk p _ [.va (enc (v_order : List (Int))), .va (enc (v_weights : List (Int))), .va (enc (v_nailed : List (Int)))] (check_three v_order v_weights v_nailed) _
  unfold check_three
  exact (k_drop (ev_call3 (ev_var rfl) (ev_var rfl) ev_int) (fun x8 => (k_drop (ev_call2 (ev_len (ev_var rfl)) (ev_var rfl)) (fun x7 => k_endU))))
theorem cal_check_three (T : Blt mg) (C_ : Csts p mg) (c_check_all : Cal P w p.K mg base "check_all" 4 ["order", "weights", "most"] (sp3 p false check_all)) (c_check_nailed : Cal P w p.K mg base "check_nailed" 3 ["many", "nailed"] (sp2 p false check_nailed)) (D_ : Df p.K mg "check_three" s_check_three) : Cal P w p.K mg base "check_three" 5 ["order", "weights", "nailed"] (sp3 p false check_three) := by
  obtain ⟨fa, fd, F, hm⟩ := D_.ex
  exact ⟨fa, fd, ok_check_three T C_ c_check_all c_check_nailed F, hm, F.kp, F.binds fun _ _ _ _ _ _ us hl => match us, hl with | [_, _, _], _ => rfl⟩

/-! ## _law_number -/
abbrev s__law_number : Stmt := top 33
theorem sc__law_number : FnScope ["_law_cell", "_law_at", "_law_whole", "_law_small", "_law_mixed", "_law_more"] ["_law_cell", "_law_at", "_law_whole"] (defScope s__law_number) := ⟨rfl, rfl, rfl, by decide +kernel, rfl, by decide +kernel, by decide +kernel⟩
theorem ok__law_number {fa : Addr} {fd : FuncData} (T : Blt mg) (C_ : Csts p mg)  (F : Fun p.K "_law_number" "_law_number" s__law_number fa fd) : FnOk P w p.K mg base CX0 1 fa fd ["_law_cell", "_law_at", "_law_whole"] (sp3 p false _law_number) := by
  refine def_ok (n := 3) F sc__law_number (fun _ => rfl) rfl fun cdv A outer s H E hr => ?_
  apply Exists.intro
  apply And.intro
  · exact (pss_cons (ps_if (pt_cmpR op_ge (pv 0) (pe_op op_pow pe_int pe_int) (nomark _)) (pss_one (ps_ret (pv 0))) pss_nil) (pss_cons (ps_set (i := 3) sc__law_number.nd rfl (by first | exact Or.inl rfl | exact Or.inr rfl) (pe_op op_modN (pv 0) pe_int)) (pss_cons (ps_set (i := 4) sc__law_number.nd rfl (by first | exact Or.inl rfl | exact Or.inr rfl) (pe_op op_modN (pe_op op_add (pe_op op_mulW (pe_op op_add (pv 3) (pe_op op_mulW pe_int (pv 1))) pe_int) (pe_op op_modN (pv 2) pe_int)) pe_int)) (pss_cons (ps_set (i := 5) sc__law_number.nd rfl (by first | exact Or.inl rfl | exact Or.inr rfl) (pe_op op_mulW (pe_op op_mulW (pv 4) (pe_op op_add (pe_op op_add (pv 4) (pe_op op_mulW pe_int (pv 1))) pe_int)) (pe_op op_add (pe_op op_add (pv 4) (pv 3)) pe_int))) (pss_one (ps_ret (pe_op op_fdivN (pe_op op_mulW (pv 5) (pe_op op_add (pv 5) pe_int)) pe_int)))))))
  rintro ⟨v_cell, v_at, v_whole⟩
  show Bk p _ [.va (enc (v_cell : Int)), .va (enc (v_at : Int)), .va (enc (v_whole : Int)), .fr, .fr, .fr] (_law_number v_cell v_at v_whole) _
  unfold _law_number
  exact (k_ifR (et_test (ev_ge (ev_var rfl) (ev_pow ev_int ev_int))) (k_ret (ev_var rfl)) (k_asg (ev_fmod (ev_var rfl) ev_int) (fun v_small_8 => (k_asg (ev_fmod (ev_add (ev_mul (ev_add (ev_var rfl) (ev_mul ev_int (ev_var rfl))) ev_int) (ev_fmod (ev_var rfl) ev_int)) ev_int) (fun v_mixed_27 => (k_asg (ev_mul (ev_mul (ev_var rfl) (ev_add (ev_add (ev_var rfl) (ev_mul ev_int (ev_var rfl))) ev_int)) (ev_add (ev_add (ev_var rfl) (ev_var rfl)) ev_int)) (fun v_more_48 => (k_ret (ev_fdiv (ev_mul (ev_var rfl) (ev_add (ev_var rfl) ev_int)) ev_int)))))))))
theorem cal__law_number (T : Blt mg) (C_ : Csts p mg)  (D_ : Df p.K mg "_law_number" s__law_number) : Cal P w p.K mg base "_law_number" 1 ["_law_cell", "_law_at", "_law_whole"] (sp3 p false _law_number) := by
  obtain ⟨fa, fd, F, hm⟩ := D_.ex
  exact ⟨fa, fd, ok__law_number T C_  F, hm, F.kp, F.binds fun _ _ _ _ _ _ us hl => match us, hl with | [_, _, _], _ => rfl⟩

/-! ## _law_order -/
abbrev s__law_order : Stmt := top 35
theorem sc__law_order : FnScope ["_law_script", "_law_by", "_law_most", "_law_cells", "_law_whole", "_law_found", "_law_many", "_law_kind", "_law_at", "_law_number_here", "_law_spot", "_law_turn", "_law_shift"] ["_law_script", "_law_by", "_law_most"] (defScope s__law_order) := ⟨rfl, rfl, rfl, by decide +kernel, rfl, by decide +kernel, by decide +kernel⟩
theorem ok__law_order {fa : Addr} {fd : FuncData} (T : Blt mg) (C_ : Csts p mg) (c__law_number : Cal P w p.K mg base "_law_number" 1 ["_law_cell", "_law_at", "_law_whole"] (sp3 p false _law_number)) (F : Fun p.K "_law_order" "_law_order" s__law_order fa fd) : FnOk P w p.K mg base CX0 2 fa fd ["_law_script", "_law_by", "_law_most"] (sp3 p true _law_order) := by
  refine def_ok (n := 10) F sc__law_order (fun _ => rfl) rfl fun cdv A outer s H E hr => ?_
  apply Exists.intro
  apply And.intro
  · exact (pss_cons (ps_set (i := 3) sc__law_order.nd rfl (by first | exact Or.inl rfl | exact Or.inr rfl) (pe_ifExp (pt_cmpR (xo_neD p.K hr.units) (pv 0) (pe_lst pa_nil) (nomark _)) (pe_slice (xs_list p.K) (pv 0) po_none (po_some pe_int)) (pe_lst (pa_cons pe_int pa_nil)))) (pss_cons (ps_par (i := 4) (j := 5) rfl sc__law_order.nd rfl rfl (by decide) rfl rfl (pa_cons (pe_op op_add (pe_callB (xc_sum p.K) (by rfl) T.sum bs_sum (pa_cons (pv 3) pa_nil)) (pv 1)) (pa_cons (pe_lst pa_nil) pa_nil)) (by rfl)) (pss_cons (ps_par (i := 6) (j := 7) rfl sc__law_order.nd rfl rfl (by decide) rfl rfl (pa_cons (pe_op op_add pe_int (pe_op op_modN (pe_op op_fdivN (pe_cal c__law_number (hr.mono (by decide)) (by rfl) (pa_cons (pv 4) (pa_cons (pe_op op_add (pv 1) pe_int) (pa_cons pe_int pa_nil)))) pe_int) (pv 2))) (pa_cons (pe_op op_modN (pe_op op_fdivN (pe_cal c__law_number (hr.mono (by decide)) (by rfl) (pa_cons (pv 4) (pa_cons (pe_op op_add (pv 1) pe_int) (pa_cons pe_int pa_nil)))) pe_int) pe_int) pa_nil)) (by rfl)) (pss_cons (ps_for PassesOwn.never rfl (pi_range1 (by rfl) T.range (pa_cons (pv 6) pa_nil)) (pg_name (i := 8) sc__law_order.nd rfl (by first | exact Or.inl rfl | exact Or.inr rfl)) (pss_cons (ps_set (i := 9) sc__law_order.nd rfl (by first | exact Or.inl rfl | exact Or.inr rfl) (pe_op op_fdivN (pe_cal c__law_number (hr.mono (by decide)) (by rfl) (pa_cons (pe_op op_add (xe_ixL p.K (pv 3) (pe_op op_modN (pe_op op_add (pv 8) (pv 1)) (pe_callB (xc_len p.K) (by rfl) T.len bs_len (pa_cons (pv 3) pa_nil))) (fun _ _ => rfl)) (pe_op op_mulW pe_int (pv 8))) (pa_cons (pe_op op_add (pv 8) (pv 1)) (pa_cons (pv 4) pa_nil)))) pe_int)) (pss_cons (ps_set (i := 10) sc__law_order.nd rfl (by first | exact Or.inl rfl | exact Or.inr rfl) (xe_ixT p.K (pe_tup (pa_cons (pe_op op_modN (pv 9) (pe_op op_add (pv 8) pe_int)) (pa_cons (pe_op op_modN (pv 9) pe_int) (pa_cons (pv 8) (pa_cons (pe_op op_mulW (pe_op op_modN (pv 9) pe_int) (pv 8)) (pa_cons (pv 8) pa_nil)))))) (pv 7) (fun _ _ => rfl))) (pss_cons (ps_expr (xe_insert p.K (pv 5) (pa_cons (pv 10) (pa_cons (pv 8) pa_nil)))) pss_nil)))) (pss_cons (ps_if (PW.pt (pw_or (pt_cmpR op_eq (pv 7) pe_int (nomark _)) (pw_or1 (pt_cmpR op_eq (pv 7) pe_int (nomark _))))) (pss_cons (ps_for PassesOwn.never rfl (pi_range1 (by rfl) T.range (pa_cons (pe_op op_fdivN (pv 6) pe_int) pa_nil)) (pg_name (i := 11) sc__law_order.nd rfl (by first | exact Or.inl rfl | exact Or.inr rfl)) (pss_cons (ps_set (i := 9) sc__law_order.nd rfl (by first | exact Or.inl rfl | exact Or.inr rfl) (pe_op op_fdivN (pe_cal c__law_number (hr.mono (by decide)) (by rfl) (pa_cons (pe_op op_add (xe_ixL p.K (pv 3) (pe_op op_modN (pv 11) (pe_callB (xc_len p.K) (by rfl) T.len bs_len (pa_cons (pv 3) pa_nil))) (fun _ _ => rfl)) pe_int) (pa_cons (pv 11) (pa_cons (pv 4) pa_nil)))) pe_int)) (pss_cons (ps_expr (xe_insert p.K (pv 5) (pa_cons (pe_op op_modN (pe_op op_fdivN (pv 9) pe_int) (pv 6)) (pa_cons (xe_pop p.K (pv 5) (pa_cons (pe_op op_modN (pv 9) (pv 6)) pa_nil)) pa_nil)))) pss_nil))) pss_nil) pss_nil) (pss_cons (ps_set (i := 12) sc__law_order.nd rfl (by first | exact Or.inl rfl | exact Or.inr rfl) (pe_ifExp (pt_cmpR op_eq (pv 7) pe_int (nomark _)) (pe_op op_modN (pe_op op_fdivN (pv 4) pe_int) (pv 6)) pe_int)) (pss_one (ps_ret (pe_op op_cat (pe_slice (xs_list p.K) (pv 5) (po_some (pv 12)) po_none) (pe_slice (xs_list p.K) (pv 5) po_none (po_some (pv 12))))))))))))
  rintro ⟨v_script, v_by, v_most⟩
  show Bk p _ [.va (enc (v_script : Scr)), .va (enc (v_by : Int)), .va (enc (v_most : Int)), .fr, .fr, .fr, .fr, .fr, .fr, .fr, .fr, .fr, .fr] (_law_order v_script v_by v_most) _
  unfold _law_order
  exact (k_asg ((ev_if (et_test (ev_scrNe (ev_var rfl))) (ev_scrCut (ev_var rfl) ev_int) (ev_lst (es_cons ev_int es_nil)))).weak (fun v_cells_9 => (k_par (ev_add (ev_sum (ev_var rfl)) (ev_var rfl)) (ev_lst es_nil) (fun v_whole_14 v_found_15 => (k_par (ev_add ev_int (ev_fmod (ev_fdiv (ev_call3 (ev_var rfl) (ev_add (ev_var rfl) ev_int) ev_int) ev_int) (ev_var rfl))) (ev_fmod (ev_fdiv (ev_call3 (ev_var rfl) (ev_add (ev_var rfl) ev_int) ev_int) ev_int) ev_int) (fun v_many_36 v_kind_37 => (k_seq (k_for (envS := fun (s38 : (List (Int))) => [.va (enc (v_script : Scr)), .va (enc (v_by : Int)), .va (enc (v_most : Int)), .va (enc (v_cells_9 : List (Int))), .va (enc (v_whole_14 : Int)), .ow (List.map enc (s38 : List (Int))), .va (enc (v_many_36 : Int)), .va (enc (v_kind_37 : Int)), .fr, .fr, .fr, .fr, .fr]) (ei_range1 (ev_var rfl)) (le_r (le_r (le_r (le_r (le_r (le_r (le_r (le_r (le_f (le_f (le_f (le_f (le_f le_nil))))))))))))) (fun _ _ => tg_name) (fun s38 a40 => (k_asg (ev_fdiv (ev_call3 (ev_add (ev_ixL (ev_var rfl) (ev_fmod (ev_add (ev_var rfl) (ev_var rfl)) (ev_len (ev_var rfl)))) (ev_mul ev_int (ev_var rfl))) (ev_add (ev_var rfl) (ev_var rfl)) (ev_var rfl)) ev_int) (fun v_number_here_66 => (k_asg (ev_ixT (ev_tupH (es_cons (ev_fmod (ev_var rfl) (ev_add (ev_var rfl) ev_int)) (es_cons (ev_fmod (ev_var rfl) ev_int) (es_cons (ev_var rfl) (es_cons (ev_mul (ev_fmod (ev_var rfl) ev_int) (ev_var rfl)) (es_cons (ev_var rfl) es_nil)))))) (ev_var rfl)) (fun v_spot_100 => (k_ins rfl (ev_var rfl) (ev_var rfl) (fun v_found_101 => (k_end (le_r (le_r (le_r (le_r (le_r (le_r (le_r (le_r (le_f (le_f (le_f (le_f (le_f le_nil)))))))))))))))))))))) (fun s38 => (k_seq (envN := fun (s144 : (List (Int))) => [.va (enc (v_script : Scr)), .va (enc (v_by : Int)), .va (enc (v_most : Int)), .va (enc (v_cells_9 : List (Int))), .va (enc (v_whole_14 : Int)), .ow (List.map enc (s144 : List (Int))), .va (enc (v_many_36 : Int)), .va (enc (v_kind_37 : Int)), .fr, .fr, .fr, .fr, .fr]) (k_if (et_or (et_test (ev_eqS (ev_var rfl) ev_int)) (et_test (ev_eqS (ev_var rfl) ev_int))) (k_seq (k_for (envS := fun (s111 : (List (Int))) => [.va (enc (v_script : Scr)), .va (enc (v_by : Int)), .va (enc (v_most : Int)), .va (enc (v_cells_9 : List (Int))), .va (enc (v_whole_14 : Int)), .ow (List.map enc (s111 : List (Int))), .va (enc (v_many_36 : Int)), .va (enc (v_kind_37 : Int)), .fr, .fr, .fr, .fr, .fr]) (ei_range1 (ev_fdiv (ev_var rfl) ev_int)) (le_r (le_r (le_r (le_r (le_r (le_r (le_r (le_r (le_f (le_f (le_f (le_f (le_f le_nil))))))))))))) (fun _ _ => tg_name) (fun s111 a115 => (k_asg (ev_fdiv (ev_call3 (ev_add (ev_ixL (ev_var rfl) (ev_fmod (ev_var rfl) (ev_len (ev_var rfl)))) ev_int) (ev_var rfl) (ev_var rfl)) ev_int) (fun v_number_here_133 => (k_move rfl (ev_fmod (ev_fdiv (ev_var rfl) ev_int) (ev_var rfl)) (ev_fmod (ev_var rfl) (ev_var rfl)) (fun v_found_134 => (k_end (le_r (le_r (le_r (le_r (le_r (le_r (le_r (le_r (le_f (le_f (le_f (le_f (le_f le_nil)))))))))))))))))))) (fun s111 => (k_end (le_r (le_r (le_r (le_r (le_r (le_r (le_r (le_r (le_f (le_f (le_f (le_f (le_f le_nil)))))))))))))))) (k_end (le_r (le_r (le_r (le_r (le_r (le_r (le_r (le_r (le_f (le_f (le_f (le_f (le_f le_nil))))))))))))))) (fun s144 => (k_asg (ev_if (et_test (ev_eqS (ev_var rfl) ev_int)) (ev_fmod (ev_fdiv (ev_var rfl) ev_int) (ev_var rfl)) ev_int) (fun v_shift_156 => (k_freeze (i := 5) rfl (k_ret (ev_cat ((ev_slice (ev_var rfl) (eo_some (ev_var rfl)) eo_none)).weak ((ev_slice (ev_var rfl) eo_none (eo_some (ev_var rfl)))).weak)))))))))))))))
theorem cal__law_order (T : Blt mg) (C_ : Csts p mg) (c__law_number : Cal P w p.K mg base "_law_number" 1 ["_law_cell", "_law_at", "_law_whole"] (sp3 p false _law_number)) (D_ : Df p.K mg "_law_order" s__law_order) : Cal P w p.K mg base "_law_order" 2 ["_law_script", "_law_by", "_law_most"] (sp3 p true _law_order) := by
  obtain ⟨fa, fd, F, hm⟩ := D_.ex
  exact ⟨fa, fd, ok__law_order T C_ c__law_number F, hm, F.kp, F.binds fun _ _ _ _ _ _ us hl => match us, hl with | [_, _, _], _ => rfl⟩

/-! ## _law_weights -/
abbrev s__law_weights : Stmt := top 36
theorem sc__law_weights : FnScope ["_law_script", "_law_by", "_law_many", "_law_cells", "_law_whole", "_law_found", "_law_kind", "_law_at", "_law_number_here"] ["_law_script", "_law_by", "_law_many"] (defScope s__law_weights) := ⟨rfl, rfl, rfl, by decide +kernel, rfl, by decide +kernel, by decide +kernel⟩
theorem ok__law_weights {fa : Addr} {fd : FuncData} (T : Blt mg) (C_ : Csts p mg) (c__law_number : Cal P w p.K mg base "_law_number" 1 ["_law_cell", "_law_at", "_law_whole"] (sp3 p false _law_number)) (F : Fun p.K "_law_weights" "_law_weights" s__law_weights fa fd) : FnOk P w p.K mg base CX0 2 fa fd ["_law_script", "_law_by", "_law_many"] (sp3 p true _law_weights) := by
  refine def_ok (n := 6) F sc__law_weights (fun _ => rfl) rfl fun cdv A outer s H E hr => ?_
  apply Exists.intro
  apply And.intro
  · exact (pss_cons (ps_set (i := 3) sc__law_weights.nd rfl (by first | exact Or.inl rfl | exact Or.inr rfl) (pe_ifExp (pt_cmpR (xo_neD p.K hr.units) (pv 0) (pe_lst pa_nil) (nomark _)) (pe_slice (xs_list p.K) (pv 0) po_none (po_some pe_int)) (pe_lst (pa_cons pe_int pa_nil)))) (pss_cons (ps_par (i := 4) (j := 5) rfl sc__law_weights.nd rfl rfl (by decide) rfl rfl (pa_cons (pe_op op_add (pe_callB (xc_sum p.K) (by rfl) T.sum bs_sum (pa_cons (pv 3) pa_nil)) (pv 1)) (pa_cons (pe_lst pa_nil) pa_nil)) (by rfl)) (pss_cons (ps_set (i := 6) sc__law_weights.nd rfl (by first | exact Or.inl rfl | exact Or.inr rfl) (pe_op op_modN (pe_op op_fdivN (pe_cal c__law_number (hr.mono (by decide)) (by rfl) (pa_cons (pv 4) (pa_cons (pe_op op_add (pv 1) pe_int) (pa_cons pe_int pa_nil)))) pe_int) pe_int)) (pss_cons (ps_for PassesOwn.never rfl (pi_range1 (by rfl) T.range (pa_cons (pv 2) pa_nil)) (pg_name (i := 7) sc__law_weights.nd rfl (by first | exact Or.inl rfl | exact Or.inr rfl)) (pss_cons (ps_set (i := 8) sc__law_weights.nd rfl (by first | exact Or.inl rfl | exact Or.inr rfl) (pe_op op_fdivN (pe_cal c__law_number (hr.mono (by decide)) (by rfl) (pa_cons (pe_op op_add (xe_ixL p.K (pv 3) (pe_op op_modN (pe_op op_add (pv 7) (pv 1)) (pe_callB (xc_len p.K) (by rfl) T.len bs_len (pa_cons (pv 3) pa_nil))) (fun _ _ => rfl)) (pe_op op_mulW pe_int (pv 7))) (pa_cons (pe_op op_add (pv 7) (pv 1)) (pa_cons (pv 4) pa_nil)))) pe_int)) (pss_cons (ps_expr (xe_append p.K (pv 5) (pa_cons (xe_ixT p.K (pe_tup (pa_cons (pe_op op_add pe_int (pe_op op_modN (pv 8) pe_int)) (pa_cons (pe_op op_add pe_int (pe_op op_modN (pv 4) pe_int)) (pa_cons (pe_ifExp (pt_cmpR op_eq (pe_op op_modN (pv 8) pe_int) pe_int (nomark _)) pe_int pe_int) pa_nil)))) (pv 6) (fun _ _ => rfl)) pa_nil))) pss_nil))) (pss_one (ps_ret (pv 5)))))))
  rintro ⟨v_script, v_by, v_many⟩
  show Bk p _ [.va (enc (v_script : Scr)), .va (enc (v_by : Int)), .va (enc (v_many : Int)), .fr, .fr, .fr, .fr, .fr, .fr] (_law_weights v_script v_by v_many) _
  unfold _law_weights
  exact (k_asg ((ev_if (et_test (ev_scrNe (ev_var rfl))) (ev_scrCut (ev_var rfl) ev_int) (ev_lst (es_cons ev_int es_nil)))).weak (fun v_cells_9 => (k_par (ev_add (ev_sum (ev_var rfl)) (ev_var rfl)) (ev_lst es_nil) (fun v_whole_14 v_found_15 => (k_asg (ev_fmod (ev_fdiv (ev_call3 (ev_var rfl) (ev_add (ev_var rfl) ev_int) ev_int) ev_int) ev_int) (fun v_kind_25 => (k_seq (k_for (envS := fun (s26 : (List (Int))) => [.va (enc (v_script : Scr)), .va (enc (v_by : Int)), .va (enc (v_many : Int)), .va (enc (v_cells_9 : List (Int))), .va (enc (v_whole_14 : Int)), .ow (List.map enc (s26 : List (Int))), .va (enc (v_kind_25 : Int)), .fr, .fr]) (ei_range1 (ev_var rfl)) (le_r (le_r (le_r (le_r (le_r (le_r (le_r (le_f (le_f le_nil))))))))) (fun _ _ => tg_name) (fun s26 a28 => (k_asg (ev_fdiv (ev_call3 (ev_add (ev_ixL (ev_var rfl) (ev_fmod (ev_add (ev_var rfl) (ev_var rfl)) (ev_len (ev_var rfl)))) (ev_mul ev_int (ev_var rfl))) (ev_add (ev_var rfl) (ev_var rfl)) (ev_var rfl)) ev_int) (fun v_number_here_54 => (k_app rfl (ev_ixT (ev_tupH (es_cons (ev_add ev_int (ev_fmod (ev_var rfl) ev_int)) (es_cons (ev_add ev_int (ev_fmod (ev_var rfl) ev_int)) (es_cons (ev_if (et_test (ev_eqS (ev_fmod (ev_var rfl) ev_int) ev_int)) ev_int ev_int) es_nil)))) (ev_var rfl)) (fun v_found_55 => (k_end (le_r (le_r (le_r (le_r (le_r (le_r (le_r (le_f (le_f le_nil)))))))))))))))) (fun s26 => (k_retO rfl)))))))))
theorem cal__law_weights (T : Blt mg) (C_ : Csts p mg) (c__law_number : Cal P w p.K mg base "_law_number" 1 ["_law_cell", "_law_at", "_law_whole"] (sp3 p false _law_number)) (D_ : Df p.K mg "_law_weights" s__law_weights) : Cal P w p.K mg base "_law_weights" 2 ["_law_script", "_law_by", "_law_many"] (sp3 p true _law_weights) := by
  obtain ⟨fa, fd, F, hm⟩ := D_.ex
  exact ⟨fa, fd, ok__law_weights T C_ c__law_number F, hm, F.kp, F.binds fun _ _ _ _ _ _ us hl => match us, hl with | [_, _, _], _ => rfl⟩

/-! ## _law_nailed -/
abbrev s__law_nailed : Stmt := top 37
theorem sc__law_nailed : FnScope ["_law_script", "_law_by", "_law_many", "_law_cells", "_law_whole", "_law_kind", "_law_found", "_law_at"] ["_law_script", "_law_by", "_law_many"] (defScope s__law_nailed) := ⟨rfl, rfl, rfl, by decide +kernel, rfl, by decide +kernel, by decide +kernel⟩
theorem ok__law_nailed {fa : Addr} {fd : FuncData} (T : Blt mg) (C_ : Csts p mg) (c__law_number : Cal P w p.K mg base "_law_number" 1 ["_law_cell", "_law_at", "_law_whole"] (sp3 p false _law_number)) (F : Fun p.K "_law_nailed" "_law_nailed" s__law_nailed fa fd) : FnOk P w p.K mg base CX0 2 fa fd ["_law_script", "_law_by", "_law_many"] (sp3 p true _law_nailed) := by
  refine def_ok (n := 5) F sc__law_nailed (fun _ => rfl) rfl fun cdv A outer s H E hr => ?_
  apply Exists.intro
  apply And.intro
  · exact (pss_cons (ps_set (i := 3) sc__law_nailed.nd rfl (by first | exact Or.inl rfl | exact Or.inr rfl) (pe_ifExp (pt_cmpR (xo_neD p.K hr.units) (pv 0) (pe_lst pa_nil) (nomark _)) (pe_slice (xs_list p.K) (pv 0) po_none (po_some pe_int)) (pe_lst (pa_cons pe_int pa_nil)))) (pss_cons (ps_set (i := 4) sc__law_nailed.nd rfl (by first | exact Or.inl rfl | exact Or.inr rfl) (pe_op op_add (pe_callB (xc_sum p.K) (by rfl) T.sum bs_sum (pa_cons (pv 3) pa_nil)) (pv 1))) (pss_cons (ps_set (i := 5) sc__law_nailed.nd rfl (by first | exact Or.inl rfl | exact Or.inr rfl) (pe_op op_modN (pe_op op_fdivN (pe_cal c__law_number (hr.mono (by decide)) (by rfl) (pa_cons (pv 4) (pa_cons (pe_op op_add (pv 1) pe_int) (pa_cons pe_int pa_nil)))) pe_int) pe_int)) (pss_cons (by refine' ps_setLc (i := 6) (own := [("_law_at", 7)]) rfl sc__law_nailed.nd rfl rfl (sw_true rfl rfl rfl (by decide +kernel)) ?h60i (blkOk_by (N := ["_law_script", "_law_by", "_law_many", "_law_cells", "_law_whole", "_law_kind", "_law_found", "_law_at"]) (sc := defScope s__law_nailed) (by decide +kernel)) ?h60g ?h60t ?h60e; (case h60i => exact (pi_range1 (by rfl) T.range (pa_cons (xe_ixT p.K (pe_tup (pa_cons pe_int (pa_cons pe_int (pa_cons pe_int (pa_cons pe_int pa_nil))))) (pv 5) (fun _ _ => rfl)) pa_nil))); (case h60g => intro _ _ _ _ _; exact (pg_name (i := 7) sc__law_nailed.nd rfl (by first | exact Or.inl rfl | exact Or.inr rfl))); (case h60t => intro _ _ _ _ _; exact pts_nil); (case h60e => intro _ _ _ _ _; exact (pe_op op_modN (pe_op op_fdivN (pe_cal c__law_number (hr.mono (by decide)) (by rfl) (pa_cons (pe_op op_add (xe_ixL p.K (pv 3) (pe_op op_modN (pv 7) (pe_callB (xc_len p.K) (by rfl) T.len bs_len (pa_cons (pv 3) pa_nil))) (fun _ _ => rfl)) (pv 7)) (pa_cons (pe_op op_add (pv 7) pe_int) (pa_cons (pv 4) pa_nil)))) pe_int) (pv 2)))) (pss_one (ps_ret (xe_sset (by rfl) T.sorted (by rfl) T.set (pv 6))))))))
  rintro ⟨v_script, v_by, v_many⟩
  show Bk p _ [.va (enc (v_script : Scr)), .va (enc (v_by : Int)), .va (enc (v_many : Int)), .fr, .fr, .fr, .fr, .fr] (_law_nailed v_script v_by v_many) _
  unfold _law_nailed
  exact (k_asg ((ev_if (et_test (ev_scrNe (ev_var rfl))) (ev_scrCut (ev_var rfl) ev_int) (ev_lst (es_cons ev_int es_nil)))).weak (fun v_cells_9 => (k_asg (ev_add (ev_sum (ev_var rfl)) (ev_var rfl)) (fun v_whole_14 => (k_asg (ev_fmod (ev_fdiv (ev_call3 (ev_var rfl) (ev_add (ev_var rfl) ev_int) ev_int) ev_int) ev_int) (fun v_kind_24 => (k_asg ((ev_lc (ei_range1 (ev_ixT (ev_tupH (es_cons ev_int (es_cons ev_int (es_cons ev_int (es_cons ev_int es_nil))))) (ev_var rfl))) (fun _ => tg_name) (fun _ h => h) (fun _ => et_yes) (fun _ => (ev_fmod (ev_fdiv (ev_call3 (ev_add (ev_ixL (ev_var rfl) (ev_fmod (ev_var rfl) (ev_len (ev_var rfl)))) (ev_var rfl)) (ev_add (ev_var rfl) ev_int) (ev_var rfl)) ev_int) (ev_var rfl))))).weak (fun v_found_61 => (k_ret (ev_sset (ev_var rfl)))))))))))
theorem cal__law_nailed (T : Blt mg) (C_ : Csts p mg) (c__law_number : Cal P w p.K mg base "_law_number" 1 ["_law_cell", "_law_at", "_law_whole"] (sp3 p false _law_number)) (D_ : Df p.K mg "_law_nailed" s__law_nailed) : Cal P w p.K mg base "_law_nailed" 2 ["_law_script", "_law_by", "_law_many"] (sp3 p true _law_nailed) := by
  obtain ⟨fa, fd, F, hm⟩ := D_.ex
  exact ⟨fa, fd, ok__law_nailed T C_ c__law_number F, hm, F.kp, F.binds fun _ _ _ _ _ _ us hl => match us, hl with | [_, _, _], _ => rfl⟩

/-! ## _law_right_two -/
abbrev s__law_right_two : Stmt := top 38
theorem sc__law_right_two : FnScope ["_law_order_here", "_law_one", "_law_other"] ["_law_order_here", "_law_one", "_law_other"] (defScope s__law_right_two) := ⟨rfl, rfl, rfl, by decide +kernel, rfl, by decide +kernel, by decide +kernel⟩
theorem ok__law_right_two {fa : Addr} {fd : FuncData} (T : Blt mg) (C_ : Csts p mg)  (F : Fun p.K "_law_right_two" "_law_right_two" s__law_right_two fa fd) : FnOk P w p.K mg base CX0 1 fa fd ["_law_order_here", "_law_one", "_law_other"] (sp3 p false _law_right_two) := by
  refine def_ok (n := 0) F sc__law_right_two (fun _ => rfl) rfl fun cdv A outer s H E hr => ?_
  apply Exists.intro
  apply And.intro
  · exact (pss_one (ps_ret (pe_or (pe_cmpR op_eq (pv 1) (pv 2) (nomark _)) (pe_one (pe_cmpR op_eq (pe_cmpR op_lt (xe_index p.K (pv 0) (pa_cons (pv 1) pa_nil)) (xe_index p.K (pv 0) (pa_cons (pv 2) pa_nil)) (nomark _)) (pe_cmpR op_lt (pv 1) (pv 2) (nomark _)) (nomark _))))))
  rintro ⟨v_order_here, v_one, v_other⟩
  show Bk p _ [.va (enc (v_order_here : List (Int))), .va (enc (v_one : Int)), .va (enc (v_other : Int))] (_law_right_two v_order_here v_one v_other) _
  unfold _law_right_two
  exact (k_ret (ev_or (ev_eqS (ev_var rfl) (ev_var rfl)) (ev_eqS (ev_lt (ev_index (ev_var rfl) (ev_var rfl)) (ev_index (ev_var rfl) (ev_var rfl))) (ev_lt (ev_var rfl) (ev_var rfl)))))
theorem cal__law_right_two (T : Blt mg) (C_ : Csts p mg)  (D_ : Df p.K mg "_law_right_two" s__law_right_two) : Cal P w p.K mg base "_law_right_two" 1 ["_law_order_here", "_law_one", "_law_other"] (sp3 p false _law_right_two) := by
  obtain ⟨fa, fd, F, hm⟩ := D_.ex
  exact ⟨fa, fd, ok__law_right_two T C_  F, hm, F.kp, F.binds fun _ _ _ _ _ _ us hl => match us, hl with | [_, _, _], _ => rfl⟩

/-! ## _law_free -/
abbrev s__law_free : Stmt := top 39
theorem sc__law_free : FnScope ["_law_order_here", "_law_nailed_here", "_law_book", "_law_one"] ["_law_order_here", "_law_nailed_here"] (defScope s__law_free) := ⟨rfl, rfl, rfl, by decide +kernel, rfl, by decide +kernel, by decide +kernel⟩
theorem ok__law_free {fa : Addr} {fd : FuncData} (T : Blt mg) (C_ : Csts p mg) (c__law_right_two : Cal P w p.K mg base "_law_right_two" 1 ["_law_order_here", "_law_one", "_law_other"] (sp3 p false _law_right_two)) (F : Fun p.K "_law_free" "_law_free" s__law_free fa fd) : FnOk P w p.K mg base CX0 2 fa fd ["_law_order_here", "_law_nailed_here"] (sp2 p true _law_free) := by
  refine def_ok (n := 2) F sc__law_free (fun _ => rfl) rfl fun cdv A outer s H E hr => ?_
  apply Exists.intro
  apply And.intro
  · exact (pss_one (ps_ret (by refine' pe_lc (own := [("_law_book", 2)]) rfl sc__law_free.nd ?h10i (blkOk_by (N := ["_law_order_here", "_law_nailed_here", "_law_book", "_law_one"]) (sc := defScope s__law_free) (by decide +kernel)) ?h10g ?h10t ?h10e; (case h10i => exact (xi_list p.K (pv 0))); (case h10g => intro _ _ _ _ _; exact (pg_name (i := 2) sc__law_free.nd rfl (by first | exact Or.inl rfl | exact Or.inr rfl))); (case h10t => intro _ _ _ _ _; exact (pts_one (pt_val (pe_callB (xc_all p.K) (by rfl) T.all bs_all (pa_cons (by refine' pe_lc (own := [("_law_one", 3)]) rfl sc__law_free.nd ?h7i (blkOk_by (by kernel_rfl)) ?h7g ?h7t ?h7e; (case h7i => exact (xi_list p.K (pv 1))); (case h7g => intro _ _ _ _ _; exact (pg_name (i := 3) sc__law_free.nd rfl (by first | exact Or.inl rfl | exact Or.inr rfl))); (case h7t => intro _ _ _ _ _; exact pts_nil); (case h7e => intro _ _ _ _ _; exact (pe_cal c__law_right_two (hr.mono (by decide)) (by rfl) (pa_cons (pv 0) (pa_cons (pv 2) (pa_cons (pv 3) pa_nil)))))) pa_nil))))); (case h10e => intro _ _ _ _ _; exact (pv 2)))))
  rintro ⟨v_order_here, v_nailed_here⟩
  show Bk p _ [.va (enc (v_order_here : List (Int))), .va (enc (v_nailed_here : List (Int))), .fr, .fr] (_law_free v_order_here v_nailed_here) _
  unfold _law_free
  exact (k_ret (ev_lc (ei_list (ev_var rfl)) (fun _ => tg_name) (fun _ h => h) (fun _ => (et_B (ev_all ((ev_lc (ei_list (ev_var rfl)) (fun _ => tg_name) (fun _ h => h) (fun _ => et_yes) (fun _ => (ev_call3 (ev_var rfl) (ev_var rfl) (ev_var rfl))))).weak))) (fun _ => (ev_var rfl))))
theorem cal__law_free (T : Blt mg) (C_ : Csts p mg) (c__law_right_two : Cal P w p.K mg base "_law_right_two" 1 ["_law_order_here", "_law_one", "_law_other"] (sp3 p false _law_right_two)) (D_ : Df p.K mg "_law_free" s__law_free) : Cal P w p.K mg base "_law_free" 2 ["_law_order_here", "_law_nailed_here"] (sp2 p true _law_free) := by
  obtain ⟨fa, fd, F, hm⟩ := D_.ex
  exact ⟨fa, fd, ok__law_free T C_ c__law_right_two F, hm, F.kp, F.binds fun _ _ _ _ _ _ us hl => match us, hl with | [_, _], _ => rfl⟩

/-! ## bears -/
abbrev s_bears : Stmt := top 10
theorem sc_bears : FnScope ["order", "weights", "rows", "borne", "whole", "books", "many", "book", "one", "other"] ["order", "weights", "rows"] (defScope s_bears) := ⟨rfl, rfl, rfl, by decide +kernel, rfl, by decide +kernel, by decide +kernel⟩
theorem ok_bears {fa : Addr} {fd : FuncData} (T : Blt mg) (C_ : Csts p mg) (c_are_in : Cal P w p.K mg base "are_in" 1 ["order", "books"] (sp2 p false are_in)) (F : Fun p.K "bears" "bears" s_bears fa fd) : FnOk P w p.K mg base CX0 2 fa fd ["order", "weights", "rows"] (sp3 p false bears) := by
  refine def_ok (n := 7) F sc_bears (fun _ => rfl) rfl fun cdv A outer s H E hr => ?_
  apply Exists.intro
  apply And.intro
  · exact (pss_cons (ps_asg (pe_tup (pa_cons pe_dnewK (pa_cons pe_int pa_nil))) (xg_tup (n := 2) p.K rfl (pgs_cons (pg_name (i := 3) sc_bears.nd rfl (by first | exact Or.inl rfl | exact Or.inr rfl)) (pgs_cons (pg_name (i := 4) sc_bears.nd rfl (by first | exact Or.inl rfl | exact Or.inr rfl)) pgs_nil)))) (pss_cons (ps_for PassesOwn.never rfl (xi_list p.K (pv 2)) (xg_tup (n := 2) p.K rfl (pgs_cons (pg_name (i := 5) sc_bears.nd rfl (by first | exact Or.inl rfl | exact Or.inr rfl)) (pgs_cons (pg_name (i := 6) sc_bears.nd rfl (by first | exact Or.inl rfl | exact Or.inr rfl)) pgs_nil))) (pss_cons (ps_if (PW.pt (pw_or (pt_cmpR op_lt (pv 6) pe_int (nomark _)) (pw_or (pt_not (pt_val (pe_cal c_are_in (hr.mono (by decide)) (by rfl) (pa_cons (pv 0) (pa_cons (pv 5) pa_nil))))) (pw_or1 (pt_val (pe_callB (xc_any p.K) (by rfl) T.any bs_any (pa_cons (by refine' pe_lc (own := [("one", 8), ("other", 9)]) rfl sc_bears.nd ?h20i (blkOk_by (N := ["order", "weights", "rows", "borne", "whole", "books", "many", "book", "one", "other"]) (sc := defScope s_bears) (by decide +kernel)) ?h20g ?h20t ?h20e; (case h20i => exact (xi_zip p.K (by rfl) T.zip (pa_cons (pv 5) (pa_cons (pe_slice (xs_list p.K) (pv 5) (po_some pe_int) po_none) pa_nil)))); (case h20g => intro _ _ _ _ _; exact (xg_tup (n := 2) p.K rfl (pgs_cons (pg_name (i := 8) sc_bears.nd rfl (by first | exact Or.inl rfl | exact Or.inr rfl)) (pgs_cons (pg_name (i := 9) sc_bears.nd rfl (by first | exact Or.inl rfl | exact Or.inr rfl)) pgs_nil)))); (case h20t => intro _ _ _ _ _; exact pts_nil); (case h20e => intro _ _ _ _ _; exact (pe_cmpR op_le (pv 8) (pv 9) (nomark _)))) pa_nil))))))) (pss_one (ps_ret (pe_un un_neg pe_int))) pss_nil) (pss_cons (ps_aug (i := 4) sc_bears.nd rfl (by first | exact Or.inl rfl | exact Or.inr rfl) (pv 6) ip_add) (pss_cons (ps_for PassesOwn.never rfl (xi_list p.K (pv 5)) (pg_name (i := 7) sc_bears.nd rfl (by first | exact Or.inl rfl | exact Or.inr rfl)) (pss_cons (ps_asg (pe_op op_add (pe_dget2 (Nat.lt_of_le_of_lt (Nat.add_le_add_left (by decide) _) hr.units) (pv 3) (pv 7) pe_int ⟨by rfl, by rfl, by rfl, by rfl⟩) (pv 6)) (pg_sub (pv 3) (pv 7) (set_dict (Nat.lt_of_le_of_lt (Nat.add_le_add_left (by decide) _) hr.units)))) pss_nil)) pss_nil)))) (pss_cons (ps_if (pt_val (pe_callB (xc_any p.K) (by rfl) T.any bs_any (pa_cons (by refine' pe_lc (own := [("book", 7)]) rfl sc_bears.nd ?h50i (blkOk_by (N := ["order", "weights", "rows", "borne", "whole", "books", "many", "book", "one", "other"]) (sc := defScope s_bears) (by decide +kernel)) ?h50g ?h50t ?h50e; (case h50i => exact (xi_list p.K (pv 0))); (case h50g => intro _ _ _ _ _; exact (pg_name (i := 7) sc_bears.nd rfl (by first | exact Or.inl rfl | exact Or.inr rfl))); (case h50t => intro _ _ _ _ _; exact pts_nil); (case h50e => intro _ _ _ _ _; exact (pe_cmpR op_lt (pe_dget2 (Nat.lt_of_le_of_lt (Nat.add_le_add_left (by decide) _) hr.units) (pv 3) (pv 7) pe_int ⟨by rfl, by rfl, by rfl, by rfl⟩) (xe_ixL p.K (pv 1) (pv 7) (fun _ _ => rfl)) (nomark _)))) pa_nil))) (pss_one (ps_ret (pe_un un_neg pe_int))) pss_nil) (pss_one (ps_ret (pv 4))))))
  rintro ⟨v_order, v_weights, v_rows⟩
  show Bk p _ [.va (enc (v_order : List (Int))), .va (enc (v_weights : List (Int))), .va (enc (v_rows : List ((List (Int)) × (Int)))), .fr, .fr, .fr, .fr, .fr, .fr, .fr] (bears v_order v_weights v_rows) _
  unfold bears
  exact (k_tupX (ex_r er_dnew) (ex_va ev_int) (fun v_borne_1 v_whole_2 => (k_seqR (k_forB (envS := fun (s3 : (List (Int × Int)) × (Int)) => [.va (enc (v_order : List (Int))), .va (enc (v_weights : List (Int))), .va (enc (v_rows : List ((List (Int)) × (Int)))), .rs (dct s3.1), .va (enc (s3.2 : Int)), .fr, .fr, .fr, .fr, .fr]) (ei_list (ev_var rfl)) (le_r (le_r (le_r (le_r (le_r (le_f (le_f (le_f (le_f (le_f le_nil)))))))))) (fun _ _ => (tg_tup (tgs_cons tg_name (tgs_cons tg_name tgs_nil)))) (fun s3 a4 => (k_ifB (et_or (et_test (ev_lt (ev_var rfl) ev_int)) (et_or (et_not (et_B (ev_call2 (ev_var rfl) (ev_var rfl)))) (et_B (ev_any ((ev_lc (ei_zip (ev_var rfl) ((ev_slice (ev_var rfl) (eo_some ev_int) eo_none)).weak) (fun _ => (tg_tup (tgs_cons tg_name (tgs_cons tg_name tgs_nil)))) (fun _ h => h) (fun _ => et_yes) (fun _ => (ev_le (ev_var rfl) (ev_var rfl))))).weak)))) (k_ret (ev_neg ev_int)) (k_add rfl (ev_var rfl) (fun v_whole_27 => (k_seq (k_for (envS := fun (s28 : (List (Int × Int))) => [.va (enc (v_order : List (Int))), .va (enc (v_weights : List (Int))), .va (enc (v_rows : List ((List (Int)) × (Int)))), .rs (dct s28), .va (enc (v_whole_27 : Int)), .va (enc (a4.1 : List (Int))), .va (enc (a4.2 : Int)), .fr, .fr, .fr]) (ei_list (ev_var rfl)) (le_r (le_r (le_r (le_r (le_r (le_r (le_r (le_f (le_f (le_f le_nil)))))))))) (fun _ _ => tg_name) (fun s28 a29 => (k_dput rfl (ev_add (dct_get2 rfl (ev_var rfl) ev_int) (ev_var rfl)) (ev_var rfl) (fun v_borne_38 => (k_end (le_r (le_r (le_r (le_r (le_r (le_r (le_r (le_f (le_f (le_f le_nil))))))))))))))) (fun s28 => (k_endB (le_r (le_r (le_r (le_r (le_r (le_f (le_f (le_f (le_f (le_f le_nil)))))))))))))))))) (fun s3 => (k_ifR (et_B (ev_any ((ev_lc (ei_list (ev_var rfl)) (fun _ => tg_name) (fun _ h => h) (fun _ => et_yes) (fun _ => (ev_lt (dct_get2 rfl (ev_var rfl) ev_int) (ev_ixL (ev_var rfl) (ev_var rfl)))))).weak)) (k_ret (ev_neg ev_int)) (k_ret (ev_var rfl)))))))
theorem cal_bears (T : Blt mg) (C_ : Csts p mg) (c_are_in : Cal P w p.K mg base "are_in" 1 ["order", "books"] (sp2 p false are_in)) (D_ : Df p.K mg "bears" s_bears) : Cal P w p.K mg base "bears" 2 ["order", "weights", "rows"] (sp3 p false bears) := by
  obtain ⟨fa, fd, F, hm⟩ := D_.ex
  exact ⟨fa, fd, ok_bears T C_ c_are_in F, hm, F.kp, F.binds fun _ _ _ _ _ _ us hl => match us, hl with | [_, _, _], _ => rfl⟩

/-! ## Least.__init__ -/
abbrev s_Least_init : Stmt := inClass (top 13) 0
theorem sc_Least_init : FnScope ["self", "stay", "rows", "books", "many"] ["self", "stay", "rows"] (defScope s_Least_init) := ⟨rfl, rfl, rfl, by decide +kernel, rfl, by decide +kernel, by decide +kernel⟩
theorem cal_Least (T : Blt mg) (C_ : Csts p mg)  (D_ : Di p.K (p.cl 0) "Least.__init__" s_Least_init) : Mak P w p.K mg base "Least" (p.cl 0) 1 ["self", "stay", "rows"] (spI2 p 0 mk_Least) := by
  obtain ⟨fa, fd, F, M⟩ := D_.ex
  refine ⟨fa, fd, M, ?_, C_.cls_0.at_, F.binds fun _ _ _ _ _ _ us hl => match us, hl with | [_, _, _], _ => rfl⟩
  refine init_ok (n := 2) F sc_Least_init (fun _ => rfl) rfl fun cdv A outer s H E hr => ?_
  apply Exists.intro
  apply And.intro
  · exact (pss_cons (ps_fld (pv 0) (pe_callTy (xc_list p.K) (by rfl) T.list bs_list (pa_cons (pv 1) pa_nil)) rfl) (pss_cons (ps_fld (pv 0) (by refine' pe_lc (own := [("books", 3), ("many", 4)]) rfl sc_Least_init.nd ?h8i (blkOk_by (N := ["self", "stay", "rows", "books", "many"]) (sc := defScope s_Least_init) (by decide +kernel)) ?h8g ?h8t ?h8e; (case h8i => exact (xi_list p.K (pv 2))); (case h8g => intro _ _ _ _ _; exact (xg_tup (n := 2) p.K rfl (pgs_cons (pg_name (i := 3) sc_Least_init.nd rfl (by first | exact Or.inl rfl | exact Or.inr rfl)) (pgs_cons (pg_name (i := 4) sc_Least_init.nd rfl (by first | exact Or.inl rfl | exact Or.inr rfl)) pgs_nil)))); (case h8t => intro _ _ _ _ _; exact pts_nil); (case h8e => intro _ _ _ _ _; exact (pe_tup (pa_cons (pe_callTy (xc_list p.K) (by rfl) T.list bs_list (pa_cons (pv 3) pa_nil)) (pa_cons (pv 4) pa_nil))))) rfl) pss_nil))
  intro y
  rintro ⟨v_stay, v_rows⟩
  show Bk p _ [.rs (dnAt y (.ins 0 [])), .va (enc (v_stay : List (Int))), .va (enc (v_rows : List ((List (Int)) × (Int)))), .fr, .fr] (mk_Least v_stay v_rows) _
  unfold mk_Least
  exact (k_fldN rfl C_.cls_0.cls C_.na_0_stay rfl (by show 0 < 1000; decide) (en_own (ev_list (ev_var rfl))) (fun _ => (k_fldN rfl C_.cls_0.cls C_.na_0_rows ((lk1 (by decide +kernel)).trans rfl) (by show 1 < 1000; decide) (en_lc (ei_list (ev_var rfl)) (fun _ => (tg_tup (tgs_cons tg_name (tgs_cons tg_name tgs_nil)))) (fun _ h => h) (fun _ => et_yes) (fun _ => (en_tup2 (en_own (ev_list (ev_var rfl))) (en_imm (ev_var rfl))))) (fun _ => (k_endI rfl rfl)))))

/-! ## Stuck.__init__ -/
abbrev s_Stuck_init : Stmt := inClass (top 14) 0
theorem sc_Stuck_init : FnScope ["self", "one", "other"] ["self", "one", "other"] (defScope s_Stuck_init) := ⟨rfl, rfl, rfl, by decide +kernel, rfl, by decide +kernel, by decide +kernel⟩
theorem cal_Stuck (T : Blt mg) (C_ : Csts p mg)  (D_ : Di p.K (p.cl 1) "Stuck.__init__" s_Stuck_init) : Mak P w p.K mg base "Stuck" (p.cl 1) 1 ["self", "one", "other"] (spI2 p 1 mk_Stuck) := by
  obtain ⟨fa, fd, F, M⟩ := D_.ex
  refine ⟨fa, fd, M, ?_, C_.cls_1.at_, F.binds fun _ _ _ _ _ _ us hl => match us, hl with | [_, _, _], _ => rfl⟩
  refine init_ok (n := 0) F sc_Stuck_init (fun _ => rfl) rfl fun cdv A outer s H E hr => ?_
  apply Exists.intro
  apply And.intro
  · exact (pss_cons (ps_fld (pv 0) (pv 1) rfl) (pss_cons (ps_fld (pv 0) (pv 2) rfl) pss_nil))
  intro y
  rintro ⟨v_one, v_other⟩
  show Bk p _ [.rs (dnAt y (.ins 1 [])), .va (enc (v_one : Int)), .va (enc (v_other : Int))] (mk_Stuck v_one v_other) _
  unfold mk_Stuck
  exact (k_fldN rfl C_.cls_1.cls C_.na_1_one rfl (by show 0 < 1000; decide) (en_imm (ev_var rfl)) (fun _ => (k_fldN rfl C_.cls_1.cls C_.na_1_other ((lk1 (by decide +kernel)).trans rfl) (by show 1 < 1000; decide) (en_imm (ev_var rfl)) (fun _ => (k_endI rfl rfl)))))

/-! ## least -/
abbrev s_least : Stmt := top 31
theorem sc_least : FnScope ["order", "weights", "nailed", "wrong", "free"] ["order", "weights", "nailed"] (defScope s_least) := ⟨rfl, rfl, rfl, by decide +kernel, rfl, by decide +kernel, by decide +kernel⟩
theorem ok_least {fa : Addr} {fd : FuncData} (T : Blt mg) (C_ : Csts p mg) (c_Least : Mak P w p.K mg base "Least" (p.cl 0) 1 ["self", "stay", "rows"] (spI2 p 0 mk_Least)) (c_Stuck : Mak P w p.K mg base "Stuck" (p.cl 1) 1 ["self", "one", "other"] (spI2 p 1 mk_Stuck)) (c_check_three : Cal P w p.K mg base "check_three" 5 ["order", "weights", "nailed"] (sp3 p false check_three)) (c_clash : Cal P w p.K mg base "clash" 2 ["order", "nailed"] (sp2 p false clash)) (c_free_ones : Cal P w p.K mg base "free_ones" 2 ["order", "nailed"] (sp2 p true free_ones)) (c_paper : Cal P w p.K mg base "paper" 2 ["order", "weights"] (sp2 p true paper)) (c_staying : Cal P w p.K mg base "staying" 2 ["order", "weights"] (sp2 p true staying)) (F : Fun p.K "least" "least" s_least fa fd) : FnOk P w p.K mg base CX0 6 fa fd ["order", "weights", "nailed"] (spD3 p least) := by
  refine def_okD (n := 2) F sc_least (fun _ => rfl) rfl fun cdv A outer s H E hr => ?_
  apply Exists.intro
  apply And.intro
  · exact (pss_cons (ps_expr (pe_cal c_check_three (hr.mono (by decide)) (by rfl) (pa_cons (pv 0) (pa_cons (pv 1) (pa_cons (pv 2) pa_nil))))) (pss_cons (ps_set (i := 3) sc_least.nd rfl (by first | exact Or.inl rfl | exact Or.inr rfl) (pe_cal c_clash (hr.mono (by decide)) (by rfl) (pa_cons (pv 0) (pa_cons (pv 2) pa_nil)))) (pss_cons (ps_if (pt_cmpR op_notN (pv 3) pe_non (nomark _)) (pss_one (ps_ret (pe_mak c_Stuck (hr.mono (by decide)) (by rfl) (pa_cons (xe_ixT p.K (pv 3) pe_int (fun _ _ => rfl)) (pa_cons (xe_ixT p.K (pv 3) pe_int (fun _ _ => rfl)) pa_nil))))) pss_nil) (pss_cons (ps_set (i := 4) sc_least.nd rfl (by first | exact Or.inl rfl | exact Or.inr rfl) (pe_cal c_free_ones (hr.mono (by decide)) (by rfl) (pa_cons (pv 0) (pa_cons (pv 2) pa_nil)))) (pss_one (ps_ret (pe_mak c_Least (hr.mono (by decide)) (by rfl) (pa_cons (pe_cal c_staying (hr.mono (by decide)) (by rfl) (pa_cons (pv 4) (pa_cons (pv 1) pa_nil))) (pa_cons (pe_cal c_paper (hr.mono (by decide)) (by rfl) (pa_cons (pv 4) (pa_cons (pv 1) pa_nil))) pa_nil)))))))))
  rintro ⟨v_order, v_weights, v_nailed⟩
  show Bk p _ [.va (enc (v_order : List (Int))), .va (enc (v_weights : List (Int))), .va (enc (v_nailed : List (Int))), .fr, .fr] (least v_order v_weights v_nailed) _
  unfold least
  exact (k_drop (ev_call3 (ev_var rfl) (ev_var rfl) (ev_var rfl)) (fun x36 => (k_asg (ev_call2 (ev_var rfl) (ev_var rfl)) (fun v_wrong_6 => (k_ifD (et_test (ev_notN (ev_var rfl))) (k_retD (en_make2 (ev_fst (ev_un (ev_var rfl))) (ev_snd (ev_un (ev_var rfl))))) (k_asg ((ev_call2 (ev_var rfl) (ev_var rfl))).weak (fun v_free_23 => (k_retD (en_make2 ((ev_call2 (ev_var rfl) (ev_var rfl))).weak ((ev_call2 (ev_var rfl) (ev_var rfl))).weak)))))))))
theorem cal_least (T : Blt mg) (C_ : Csts p mg) (c_Least : Mak P w p.K mg base "Least" (p.cl 0) 1 ["self", "stay", "rows"] (spI2 p 0 mk_Least)) (c_Stuck : Mak P w p.K mg base "Stuck" (p.cl 1) 1 ["self", "one", "other"] (spI2 p 1 mk_Stuck)) (c_check_three : Cal P w p.K mg base "check_three" 5 ["order", "weights", "nailed"] (sp3 p false check_three)) (c_clash : Cal P w p.K mg base "clash" 2 ["order", "nailed"] (sp2 p false clash)) (c_free_ones : Cal P w p.K mg base "free_ones" 2 ["order", "nailed"] (sp2 p true free_ones)) (c_paper : Cal P w p.K mg base "paper" 2 ["order", "weights"] (sp2 p true paper)) (c_staying : Cal P w p.K mg base "staying" 2 ["order", "weights"] (sp2 p true staying)) (D_ : Df p.K mg "least" s_least) : Cal P w p.K mg base "least" 6 ["order", "weights", "nailed"] (spD3 p least) := by
  obtain ⟨fa, fd, F, hm⟩ := D_.ex
  exact ⟨fa, fd, ok_least T C_ c_Least c_Stuck c_check_three c_clash c_free_ones c_paper c_staying F, hm, F.kp, F.binds fun _ _ _ _ _ _ us hl => match us, hl with | [_, _, _], _ => rfl⟩

/-! ## Least_shows -/
abbrev s_Least_shows : Stmt := inClass (top 13) 1
theorem sc_Least_shows : FnScope ["self", "order", "weights", "nailed", "book"] ["self", "order", "weights", "nailed"] (defScope s_Least_shows) := ⟨rfl, rfl, rfl, by decide +kernel, rfl, by decide +kernel, by decide +kernel⟩
theorem ok_Least_shows {fa : Addr} {fd : FuncData} (T : Blt mg) (C_ : Csts p mg) (c_bears : Cal P w p.K mg base "bears" 2 ["order", "weights", "rows"] (sp3 p false bears)) (c_free_ones : Cal P w p.K mg base "free_ones" 2 ["order", "nailed"] (sp2 p true free_ones)) (c_is_staying : Cal P w p.K mg base "is_staying" 2 ["order", "books"] (sp2 p false is_staying)) (c_weight_of : Cal P w p.K mg base "weight_of" 1 ["weights", "books"] (sp2 p false weight_of)) (F : Fun p.K "shows" "Least.shows" s_Least_shows fa fd) : FnOk P w p.K mg base CX0 3 fa fd ["self", "order", "weights", "nailed"] (sp4 p false L_Least_shows) := by
  refine def_ok (n := 1) F sc_Least_shows (fun _ => rfl) rfl fun cdv A outer s H E hr => ?_
  apply Exists.intro
  apply And.intro
  · exact (pss_cons (ps_if (PW.pt (pw_or (pt_not (pt_val (pe_cal c_is_staying (hr.mono (by decide)) (by rfl) (pa_cons (pv 1) (pa_cons (xe_fld p.K (pv 0)) pa_nil))))) (pw_or1 (pt_not (pt_val (pe_callB (xc_all p.K) (by rfl) T.all bs_all (pa_cons (by refine' pe_lc (own := [("book", 4)]) rfl sc_Least_shows.nd ?h10i (blkOk_by (N := ["self", "order", "weights", "nailed", "book"]) (sc := defScope s_Least_shows) (by decide +kernel)) ?h10g ?h10t ?h10e; (case h10i => exact (xi_list p.K (pv 3))); (case h10g => intro _ _ _ _ _; exact (pg_name (i := 4) sc_Least_shows.nd rfl (by first | exact Or.inl rfl | exact Or.inr rfl))); (case h10t => intro _ _ _ _ _; exact pts_nil); (case h10e => intro _ _ _ _ _; exact (pe_cmpR (xo_in p.K) (pv 4) (xe_fld p.K (pv 0)) rfl))) pa_nil))))))) (pss_one (ps_ret pe_bl)) pss_nil) (pss_one (ps_ret (pe_cmpR op_eq (pe_cal c_bears (hr.mono (by decide)) (by rfl) (pa_cons (pe_cal c_free_ones (hr.mono (by decide)) (by rfl) (pa_cons (pv 1) (pa_cons (pv 3) pa_nil))) (pa_cons (pv 2) (pa_cons (xe_fld p.K (pv 0)) pa_nil)))) (pe_cal c_weight_of (hr.mono (by decide)) (by rfl) (pa_cons (pv 2) (pa_cons (xe_fld p.K (pv 0)) pa_nil))) (nomark _)))))
  rintro ⟨v_self, v_order, v_weights, v_nailed⟩
  show Bk p _ [.va (enc (v_self : Ans)), .va (enc (v_order : List (Int))), .va (enc (v_weights : List (Int))), .va (enc (v_nailed : List (Int))), .fr] (L_Least_shows v_self v_order v_weights v_nailed) _
  unfold L_Least_shows
  exact (k_ifR (et_or (et_not (et_B (ev_call2 (ev_var rfl) (ev_stayL (ev_var rfl) C_.cls_0.cls C_.na_0_stay)))) (et_not (et_B (ev_all ((ev_lc (ei_list (ev_var rfl)) (fun _ => tg_name) (fun _ h => h) (fun _ => et_yes) (fun _ => (ev_in (ev_var rfl) (ev_stayL (ev_var rfl) C_.cls_0.cls C_.na_0_stay))))).weak)))) (k_ret ev_bl) (k_ret (ev_eqS (ev_call3 ((ev_call2 (ev_var rfl) (ev_var rfl))).weak (ev_var rfl) (ev_rows (ev_var rfl) C_.cls_0.cls C_.na_0_rows)) (ev_call2 (ev_var rfl) (ev_stayL (ev_var rfl) C_.cls_0.cls C_.na_0_stay)))))

/-! ## Stuck_shows -/
abbrev s_Stuck_shows : Stmt := inClass (top 14) 1
theorem sc_Stuck_shows : FnScope ["self", "order", "weights", "nailed"] ["self", "order", "weights", "nailed"] (defScope s_Stuck_shows) := ⟨rfl, rfl, rfl, by decide +kernel, rfl, by decide +kernel, by decide +kernel⟩
theorem ok_Stuck_shows {fa : Addr} {fd : FuncData} (T : Blt mg) (C_ : Csts p mg)  (F : Fun p.K "shows" "Stuck.shows" s_Stuck_shows fa fd) : FnOk P w p.K mg base CX0 1 fa fd ["self", "order", "weights", "nailed"] (sp4 p false Stuck_shows) := by
  refine def_ok (n := 0) F sc_Stuck_shows (fun _ => rfl) rfl fun cdv A outer s H E hr => ?_
  apply Exists.intro
  apply And.intro
  · exact (pss_cons (ps_if (PW.pt (pw_or (pt_cmpR (xo_notIn p.K) (xe_fld p.K (pv 0)) (pv 3) rfl) (pw_or (pt_cmpR (xo_notIn p.K) (xe_fld p.K (pv 0)) (pv 3) rfl) (pw_or1 (pt_cmpR op_ge (xe_fld p.K (pv 0)) (xe_fld p.K (pv 0)) (nomark _)))))) (pss_one (ps_ret pe_bl)) pss_nil) (pss_one (ps_ret (pe_cmpR op_gt (xe_index p.K (pv 1) (pa_cons (xe_fld p.K (pv 0)) pa_nil)) (xe_index p.K (pv 1) (pa_cons (xe_fld p.K (pv 0)) pa_nil)) (nomark _)))))
  rintro ⟨v_self, v_order, v_weights, v_nailed⟩
  show Bk p _ [.va (enc (v_self : Ans)), .va (enc (v_order : List (Int))), .va (enc (v_weights : List (Int))), .va (enc (v_nailed : List (Int)))] (Stuck_shows v_self v_order v_weights v_nailed) _
  unfold Stuck_shows
  exact (k_ifR (et_or (et_test (ev_notIn (ev_one (ev_var rfl) C_.cls_1.cls C_.na_1_one) (ev_var rfl))) (et_or (et_test (ev_notIn (ev_other (ev_var rfl) C_.cls_1.cls C_.na_1_other) (ev_var rfl))) (et_test (ev_ge (ev_one (ev_var rfl) C_.cls_1.cls C_.na_1_one) (ev_other (ev_var rfl) C_.cls_1.cls C_.na_1_other))))) (k_ret ev_bl) (k_ret (ev_gt (ev_index (ev_var rfl) (ev_one (ev_var rfl) C_.cls_1.cls C_.na_1_one)) (ev_index (ev_var rfl) (ev_other (ev_var rfl) C_.cls_1.cls C_.na_1_other)))))

theorem mts_shows_3 (T : Blt mg) (C_ : Csts p mg) (c_bears : Cal P w p.K mg base "bears" 2 ["order", "weights", "rows"] (sp3 p false bears)) (c_free_ones : Cal P w p.K mg base "free_ones" 2 ["order", "nailed"] (sp2 p true free_ones)) (c_is_staying : Cal P w p.K mg base "is_staying" 2 ["order", "books"] (sp2 p false is_staying)) (c_weight_of : Cal P w p.K mg base "weight_of" 1 ["weights", "books"] (sp2 p false weight_of)) (D_Least_shows : Dm p.K (p.cl 0) "shows" "Least.shows" s_Least_shows) (D_Stuck_shows : Dm p.K (p.cl 1) "shows" "Stuck.shows" s_Stuck_shows) : Mts P w p.K mg base "shows" 3 (mS3 p false [0, 1] L_ms_shows_3) := by
  refine ⟨fun C sp h => ?_⟩
  obtain ⟨c, hc, rfl, rfl⟩ := h
  simp only [List.mem_cons, List.not_mem_nil, or_false] at hc
  rcases hc with rfl | rfl
  · obtain ⟨fa, fd, F, hm⟩ := D_Least_shows.ex
    exact ⟨fa, fd, ["self", "order", "weights", "nailed"], 3, C_.cls_0.cls, hm, ok_Least_shows T C_ c_bears c_free_ones c_is_staying c_weight_of F, F.binds fun _ _ _ _ _ _ us hl => match us, hl with | [_, _, _, _], _ => rfl, by decide⟩
  · obtain ⟨fa, fd, F, hm⟩ := D_Stuck_shows.ex
    exact ⟨fa, fd, ["self", "order", "weights", "nailed"], 1, C_.cls_1.cls, hm, ok_Stuck_shows T C_  F, F.binds fun _ _ _ _ _ _ us hl => match us, hl with | [_, _, _, _], _ => rfl, by decide⟩

/-! ## _law_says -/
abbrev s__law_says : Stmt := top 34
theorem sc__law_says : FnScope ["_law_said", "_law_due"] ["_law_said", "_law_due"] (defScope s__law_says) := ⟨rfl, rfl, rfl, by decide +kernel, rfl, by decide +kernel, by decide +kernel⟩
theorem ok__law_says {fa : Addr} {fd : FuncData} (T : Blt mg) (C_ : Csts p mg)  (F : Fun p.K "_law_says" "_law_says" s__law_says fa fd) : FnOk P w p.K mg base CX0 1 fa fd ["_law_said", "_law_due"] (sp2 p false _law_says) := by
  refine def_ok (n := 0) F sc__law_says (fun _ => rfl) rfl fun cdv A outer s H E hr => ?_
  apply Exists.intro
  apply And.intro
  · exact (pss_one (ps_ret (pe_and (pe_callB (xc_isi p.K) (by rfl) T.isinstance bs_isinstance (pa_cons (pv 0) (pa_cons (pe_bltn (v := .ty "bool") (by rfl) T.bool bs_bool rfl) pa_nil))) (pe_one (pe_cmpR op_eq (pv 0) (pv 1) (nomark _))))))
  rintro ⟨v_said, v_due⟩
  show Bk p _ [.va (enc (v_said : Bool)), .va (enc (v_due : Bool))] (_law_says v_said v_due) _
  unfold _law_says
  exact (k_ret (ev_and (ev_isi (ev_var rfl) (by decide +kernel)) (ev_eqS (ev_var rfl) (ev_var rfl))))
theorem cal__law_says (T : Blt mg) (C_ : Csts p mg)  (D_ : Df p.K mg "_law_says" s__law_says) : Cal P w p.K mg base "_law_says" 1 ["_law_said", "_law_due"] (sp2 p false _law_says) := by
  obtain ⟨fa, fd, F, hm⟩ := D_.ex
  exact ⟨fa, fd, ok__law_says T C_  F, hm, F.kp, F.binds fun _ _ _ _ _ _ us hl => match us, hl with | [_, _], _ => rfl⟩

/-! ## _law_stand -/
abbrev s__law_stand : Stmt := top 40
theorem sc__law_stand : FnScope ["_law_order_here", "_law_books", "_law_places", "_law_book"] ["_law_order_here", "_law_books"] (defScope s__law_stand) := ⟨rfl, rfl, rfl, by decide +kernel, rfl, by decide +kernel, by decide +kernel⟩
theorem ok__law_stand {fa : Addr} {fd : FuncData} (T : Blt mg) (C_ : Csts p mg)  (F : Fun p.K "_law_stand" "_law_stand" s__law_stand fa fd) : FnOk P w p.K mg base CX0 1 fa fd ["_law_order_here", "_law_books"] (sp2 p false _law_stand) := by
  refine def_ok (n := 2) F sc__law_stand (fun _ => rfl) rfl fun cdv A outer s H E hr => ?_
  apply Exists.intro
  apply And.intro
  · exact (pss_cons (ps_if (pt_val (pe_callB (xc_any p.K) (by rfl) T.any bs_any (pa_cons (by refine' pe_lc (own := [("_law_book", 3)]) rfl sc__law_stand.nd ?h5i (blkOk_by (N := ["_law_order_here", "_law_books", "_law_places", "_law_book"]) (sc := defScope s__law_stand) (by decide +kernel)) ?h5g ?h5t ?h5e; (case h5i => exact (xi_list p.K (pv 1))); (case h5g => intro _ _ _ _ _; exact (pg_name (i := 3) sc__law_stand.nd rfl (by first | exact Or.inl rfl | exact Or.inr rfl))); (case h5t => intro _ _ _ _ _; exact pts_nil); (case h5e => intro _ _ _ _ _; exact (pe_cmpR (xo_notIn p.K) (pv 3) (pv 0) rfl))) pa_nil))) (pss_one (ps_ret pe_bl)) pss_nil) (pss_cons (by refine' ps_setLc (i := 2) (own := [("_law_book", 3)]) rfl sc__law_stand.nd rfl rfl (sw_true rfl rfl rfl (by decide +kernel)) ?h12i (blkOk_by (N := ["_law_order_here", "_law_books", "_law_places", "_law_book"]) (sc := defScope s__law_stand) (by decide +kernel)) ?h12g ?h12t ?h12e; (case h12i => exact (xi_list p.K (pv 1))); (case h12g => intro _ _ _ _ _; exact (pg_name (i := 3) sc__law_stand.nd rfl (by first | exact Or.inl rfl | exact Or.inr rfl))); (case h12t => intro _ _ _ _ _; exact pts_nil); (case h12e => intro _ _ _ _ _; exact (xe_index p.K (pv 0) (pa_cons (pv 3) pa_nil)))) (pss_one (ps_ret (pe_cmpR (xo_eqD p.K hr.units) (pv 2) (xe_sset (by rfl) T.sorted (by rfl) T.set (pv 2)) (nomark _))))))
  rintro ⟨v_order_here, v_books⟩
  show Bk p _ [.va (enc (v_order_here : List (Int))), .va (enc (v_books : List (Int))), .fr, .fr] (_law_stand v_order_here v_books) _
  unfold _law_stand
  exact (k_ifR (et_B (ev_any ((ev_lc (ei_list (ev_var rfl)) (fun _ => tg_name) (fun _ h => h) (fun _ => et_yes) (fun _ => (ev_notIn (ev_var rfl) (ev_var rfl))))).weak)) (k_ret ev_bl) (k_asg ((ev_lc (ei_list (ev_var rfl)) (fun _ => tg_name) (fun _ h => h) (fun _ => et_yes) (fun _ => (ev_index (ev_var rfl) (ev_var rfl))))).weak (fun v_places_13 => (k_ret (ev_eqD (ev_var rfl) ((ev_sset (ev_var rfl))).weak)))))
theorem cal__law_stand (T : Blt mg) (C_ : Csts p mg)  (D_ : Df p.K mg "_law_stand" s__law_stand) : Cal P w p.K mg base "_law_stand" 1 ["_law_order_here", "_law_books"] (sp2 p false _law_stand) := by
  obtain ⟨fa, fd, F, hm⟩ := D_.ex
  exact ⟨fa, fd, ok__law_stand T C_  F, hm, F.kp, F.binds fun _ _ _ _ _ _ us hl => match us, hl with | [_, _], _ => rfl⟩

/-! ## _law_bears -/
abbrev s__law_bears : Stmt := top 41
theorem sc__law_bears : FnScope ["_law_order_here", "_law_weights_here", "_law_rows", "_law_borne", "_law_whole", "_law_books", "_law_many", "_law_book"] ["_law_order_here", "_law_weights_here", "_law_rows"] (defScope s__law_bears) := ⟨rfl, rfl, rfl, by decide +kernel, rfl, by decide +kernel, by decide +kernel⟩
theorem ok__law_bears {fa : Addr} {fd : FuncData} (T : Blt mg) (C_ : Csts p mg) (c__law_stand : Cal P w p.K mg base "_law_stand" 1 ["_law_order_here", "_law_books"] (sp2 p false _law_stand)) (F : Fun p.K "_law_bears" "_law_bears" s__law_bears fa fd) : FnOk P w p.K mg base CX0 2 fa fd ["_law_order_here", "_law_weights_here", "_law_rows"] (sp3 p false _law_bears) := by
  refine def_ok (n := 5) F sc__law_bears (fun _ => rfl) rfl fun cdv A outer s H E hr => ?_
  apply Exists.intro
  apply And.intro
  · exact (pss_cons (ps_asg (pe_tup (pa_cons (pe_op op_rep (pe_lst (pa_cons pe_int pa_nil)) (pe_callB (xc_len p.K) (by rfl) T.len bs_len (pa_cons (pv 1) pa_nil))) (pa_cons pe_int pa_nil))) (xg_tup (n := 2) p.K rfl (pgs_cons (pg_name (i := 3) sc__law_bears.nd rfl (by first | exact Or.inl rfl | exact Or.inr rfl)) (pgs_cons (pg_name (i := 4) sc__law_bears.nd rfl (by first | exact Or.inl rfl | exact Or.inr rfl)) pgs_nil)))) (pss_cons (ps_for PassesOwn.never rfl (xi_list p.K (pv 2)) (xg_tup (n := 2) p.K rfl (pgs_cons (pg_name (i := 5) sc__law_bears.nd rfl (by first | exact Or.inl rfl | exact Or.inr rfl)) (pgs_cons (pg_name (i := 6) sc__law_bears.nd rfl (by first | exact Or.inl rfl | exact Or.inr rfl)) pgs_nil))) (pss_cons (ps_if (PW.pt (pw_or (pt_cmpR op_lt (pv 6) pe_int (nomark _)) (pw_or (pt_not (pt_val (pe_cal c__law_stand (hr.mono (by decide)) (by rfl) (pa_cons (pv 0) (pa_cons (pv 5) pa_nil))))) (pw_or1 (pt_cmpR (xo_neD p.K hr.units) (pv 5) (xe_rev p.K (xe_sset (by rfl) T.sorted (by rfl) T.set (pv 5))) (nomark _)))))) (pss_one (ps_ret (pe_un un_neg pe_int))) pss_nil) (pss_cons (ps_set (i := 4) sc__law_bears.nd rfl (by first | exact Or.inl rfl | exact Or.inr rfl) (pe_op op_add (pv 4) (pv 6))) (pss_cons (ps_for PassesOwn.never rfl (xi_list p.K (pv 5)) (pg_name (i := 7) sc__law_bears.nd rfl (by first | exact Or.inl rfl | exact Or.inr rfl)) (pss_cons (ps_asg (pe_op op_add (xe_ixL p.K (pv 3) (pv 7) (fun _ _ => rfl)) (pv 6)) (pg_sub (pv 3) (pv 7) set_list)) pss_nil)) pss_nil)))) (pss_one (ps_ret (pe_ifExp (pt_val (pe_callB (xc_all p.K) (by rfl) T.all bs_all (pa_cons (by refine' pe_lc (own := [("_law_book", 7)]) rfl sc__law_bears.nd ?h45i (blkOk_by (N := ["_law_order_here", "_law_weights_here", "_law_rows", "_law_borne", "_law_whole", "_law_books", "_law_many", "_law_book"]) (sc := defScope s__law_bears) (by decide +kernel)) ?h45g ?h45t ?h45e; (case h45i => exact (xi_list p.K (pv 0))); (case h45g => intro _ _ _ _ _; exact (pg_name (i := 7) sc__law_bears.nd rfl (by first | exact Or.inl rfl | exact Or.inr rfl))); (case h45t => intro _ _ _ _ _; exact pts_nil); (case h45e => intro _ _ _ _ _; exact (pe_cmpR op_ge (xe_ixL p.K (pv 3) (pv 7) (fun _ _ => rfl)) (xe_ixL p.K (pv 1) (pv 7) (fun _ _ => rfl)) (nomark _)))) pa_nil))) (pv 4) (pe_un un_neg pe_int))))))
  rintro ⟨v_order_here, v_weights_here, v_rows⟩
  show Bk p _ [.va (enc (v_order_here : List (Int))), .va (enc (v_weights_here : List (Int))), .va (enc (v_rows : List ((List (Int)) × (Int)))), .fr, .fr, .fr, .fr, .fr] (_law_bears v_order_here v_weights_here v_rows) _
  unfold _law_bears
  exact (k_tupR2 (ev_rep ((ev_lst (es_cons ev_int es_nil))).weak (ev_len (ev_var rfl))) ev_int (fun v_borne_6 v_whole_7 => (k_seqR (k_forB (envS := fun (s8 : (List (Int)) × (Int)) => [.va (enc (v_order_here : List (Int))), .va (enc (v_weights_here : List (Int))), .va (enc (v_rows : List ((List (Int)) × (Int)))), .ow (List.map enc (s8.1 : List (Int))), .va (enc (s8.2 : Int)), .fr, .fr, .fr]) (ei_list (ev_var rfl)) (le_r (le_r (le_r (le_r (le_r (le_f (le_f (le_f le_nil)))))))) (fun _ _ => (tg_tup (tgs_cons tg_name (tgs_cons tg_name tgs_nil)))) (fun s8 a9 => (k_ifB (et_or (et_test (ev_lt (ev_var rfl) ev_int)) (et_or (et_not (et_B (ev_call2 (ev_var rfl) (ev_var rfl)))) (et_test (ev_neD (ev_var rfl) ((ev_rev ((ev_sset (ev_var rfl))).weak)).weak)))) (k_ret (ev_neg ev_int)) (k_asg (ev_add (ev_var rfl) (ev_var rfl)) (fun v_whole_25 => (k_seq (k_for (envS := fun (s26 : (List (Int))) => [.va (enc (v_order_here : List (Int))), .va (enc (v_weights_here : List (Int))), .va (enc (v_rows : List ((List (Int)) × (Int)))), .ow (List.map enc (s26 : List (Int))), .va (enc (v_whole_25 : Int)), .va (enc (a9.1 : List (Int))), .va (enc (a9.2 : Int)), .fr]) (ei_list (ev_var rfl)) (le_r (le_r (le_r (le_r (le_r (le_r (le_r (le_f le_nil)))))))) (fun _ _ => tg_name) (fun s26 a27 => (k_seti rfl (ev_add (own_ix rfl (ev_var rfl)) (ev_var rfl)) (ev_var rfl) (fun v_borne_34 => (k_end (le_r (le_r (le_r (le_r (le_r (le_r (le_r (le_f le_nil))))))))))))) (fun s26 => (k_endB (le_r (le_r (le_r (le_r (le_r (le_f (le_f (le_f le_nil)))))))))))))))) (fun s8 => (k_ret (ev_if (et_B (ev_all ((ev_lc (ei_list (ev_var rfl)) (fun _ => tg_name) (fun _ h => h) (fun _ => et_yes) (fun _ => (ev_ge (own_ix rfl (ev_var rfl)) (ev_ixL (ev_var rfl) (ev_var rfl)))))).weak)) (ev_var rfl) (ev_neg ev_int)))))))
theorem cal__law_bears (T : Blt mg) (C_ : Csts p mg) (c__law_stand : Cal P w p.K mg base "_law_stand" 1 ["_law_order_here", "_law_books"] (sp2 p false _law_stand)) (D_ : Df p.K mg "_law_bears" s__law_bears) : Cal P w p.K mg base "_law_bears" 2 ["_law_order_here", "_law_weights_here", "_law_rows"] (sp3 p false _law_bears) := by
  obtain ⟨fa, fd, F, hm⟩ := D_.ex
  exact ⟨fa, fd, ok__law_bears T C_ c__law_stand F, hm, F.kp, F.binds fun _ _ _ _ _ _ us hl => match us, hl with | [_, _, _], _ => rfl⟩

/-! ## _law_is_least -/
abbrev s__law_is_least : Stmt := top 42
theorem sc__law_is_least : FnScope ["_law_order_here", "_law_weights_here", "_law_nailed_here", "_law_stay", "_law_rows", "_law_book"] ["_law_order_here", "_law_weights_here", "_law_nailed_here", "_law_stay", "_law_rows"] (defScope s__law_is_least) := ⟨rfl, rfl, rfl, by decide +kernel, rfl, by decide +kernel, by decide +kernel⟩
theorem ok__law_is_least {fa : Addr} {fd : FuncData} (T : Blt mg) (C_ : Csts p mg) (c__law_bears : Cal P w p.K mg base "_law_bears" 2 ["_law_order_here", "_law_weights_here", "_law_rows"] (sp3 p false _law_bears)) (c__law_free : Cal P w p.K mg base "_law_free" 2 ["_law_order_here", "_law_nailed_here"] (sp2 p true _law_free)) (c__law_stand : Cal P w p.K mg base "_law_stand" 1 ["_law_order_here", "_law_books"] (sp2 p false _law_stand)) (F : Fun p.K "_law_is_least" "_law_is_least" s__law_is_least fa fd) : FnOk P w p.K mg base CX0 3 fa fd ["_law_order_here", "_law_weights_here", "_law_nailed_here", "_law_stay", "_law_rows"] (sp5 p false _law_is_least) := by
  refine def_ok (n := 1) F sc__law_is_least (fun _ => rfl) rfl fun cdv A outer s H E hr => ?_
  apply Exists.intro
  apply And.intro
  · exact (pss_cons (ps_if (PW.pt (pw_or (pt_cmpR (xo_neD p.K hr.units) (pv 3) (xe_sset (by rfl) T.sorted (by rfl) T.set (pv 3)) (nomark _)) (pw_or (pt_not (pt_val (pe_cal c__law_stand (hr.mono (by decide)) (by rfl) (pa_cons (pv 0) (pa_cons (pv 3) pa_nil))))) (pw_or1 (pt_val (pe_callB (xc_any p.K) (by rfl) T.any bs_any (pa_cons (by refine' pe_lc (own := [("_law_book", 5)]) rfl sc__law_is_least.nd ?h11i (blkOk_by (N := ["_law_order_here", "_law_weights_here", "_law_nailed_here", "_law_stay", "_law_rows", "_law_book"]) (sc := defScope s__law_is_least) (by decide +kernel)) ?h11g ?h11t ?h11e; (case h11i => exact (xi_list p.K (pv 2))); (case h11g => intro _ _ _ _ _; exact (pg_name (i := 5) sc__law_is_least.nd rfl (by first | exact Or.inl rfl | exact Or.inr rfl))); (case h11t => intro _ _ _ _ _; exact pts_nil); (case h11e => intro _ _ _ _ _; exact (pe_cmpR (xo_notIn p.K) (pv 5) (pv 3) rfl))) pa_nil))))))) (pss_one (ps_ret pe_bl)) pss_nil) (pss_one (ps_ret (pe_cmpR op_eq (pe_cal c__law_bears (hr.mono (by decide)) (by rfl) (pa_cons (pe_cal c__law_free (hr.mono (by decide)) (by rfl) (pa_cons (pv 0) (pa_cons (pv 2) pa_nil))) (pa_cons (pv 1) (pa_cons (pv 4) pa_nil)))) (pe_callB (xc_sum p.K) (by rfl) T.sum bs_sum (pa_cons (by refine' pe_lc (own := [("_law_book", 5)]) rfl sc__law_is_least.nd ?h30i (blkOk_by (N := ["_law_order_here", "_law_weights_here", "_law_nailed_here", "_law_stay", "_law_rows", "_law_book"]) (sc := defScope s__law_is_least) (by decide +kernel)) ?h30g ?h30t ?h30e; (case h30i => exact (xi_list p.K (pv 3))); (case h30g => intro _ _ _ _ _; exact (pg_name (i := 5) sc__law_is_least.nd rfl (by first | exact Or.inl rfl | exact Or.inr rfl))); (case h30t => intro _ _ _ _ _; exact pts_nil); (case h30e => intro _ _ _ _ _; exact (xe_ixL p.K (pv 1) (pv 5) (fun _ _ => rfl)))) pa_nil)) (nomark _)))))
  rintro ⟨v_order_here, v_weights_here, v_nailed_here, v_stay, v_rows⟩
  show Bk p _ [.va (enc (v_order_here : List (Int))), .va (enc (v_weights_here : List (Int))), .va (enc (v_nailed_here : List (Int))), .va (enc (v_stay : List (Int))), .va (enc (v_rows : List ((List (Int)) × (Int)))), .fr] (_law_is_least v_order_here v_weights_here v_nailed_here v_stay v_rows) _
  unfold _law_is_least
  exact (k_ifR (et_or (et_test (ev_neD (ev_var rfl) ((ev_sset (ev_var rfl))).weak)) (et_or (et_not (et_B (ev_call2 (ev_var rfl) (ev_var rfl)))) (et_B (ev_any ((ev_lc (ei_list (ev_var rfl)) (fun _ => tg_name) (fun _ h => h) (fun _ => et_yes) (fun _ => (ev_notIn (ev_var rfl) (ev_var rfl))))).weak)))) (k_ret ev_bl) (k_ret (ev_eqS (ev_call3 ((ev_call2 (ev_var rfl) (ev_var rfl))).weak (ev_var rfl) (ev_var rfl)) (ev_sum ((ev_lc (ei_list (ev_var rfl)) (fun _ => tg_name) (fun _ h => h) (fun _ => et_yes) (fun _ => (ev_ixL (ev_var rfl) (ev_var rfl))))).weak))))
theorem cal__law_is_least (T : Blt mg) (C_ : Csts p mg) (c__law_bears : Cal P w p.K mg base "_law_bears" 2 ["_law_order_here", "_law_weights_here", "_law_rows"] (sp3 p false _law_bears)) (c__law_free : Cal P w p.K mg base "_law_free" 2 ["_law_order_here", "_law_nailed_here"] (sp2 p true _law_free)) (c__law_stand : Cal P w p.K mg base "_law_stand" 1 ["_law_order_here", "_law_books"] (sp2 p false _law_stand)) (D_ : Df p.K mg "_law_is_least" s__law_is_least) : Cal P w p.K mg base "_law_is_least" 3 ["_law_order_here", "_law_weights_here", "_law_nailed_here", "_law_stay", "_law_rows"] (sp5 p false _law_is_least) := by
  obtain ⟨fa, fd, F, hm⟩ := D_.ex
  exact ⟨fa, fd, ok__law_is_least T C_ c__law_bears c__law_free c__law_stand F, hm, F.kp, F.binds fun _ _ _ _ _ _ us hl => match us, hl with | [_, _, _, _, _], _ => rfl⟩

/-! ## _law_is_stuck -/
abbrev s__law_is_stuck : Stmt := top 43
theorem sc__law_is_stuck : FnScope ["_law_order_here", "_law_nailed_here", "_law_one", "_law_other"] ["_law_order_here", "_law_nailed_here", "_law_one", "_law_other"] (defScope s__law_is_stuck) := ⟨rfl, rfl, rfl, by decide +kernel, rfl, by decide +kernel, by decide +kernel⟩
theorem ok__law_is_stuck {fa : Addr} {fd : FuncData} (T : Blt mg) (C_ : Csts p mg)  (F : Fun p.K "_law_is_stuck" "_law_is_stuck" s__law_is_stuck fa fd) : FnOk P w p.K mg base CX0 1 fa fd ["_law_order_here", "_law_nailed_here", "_law_one", "_law_other"] (sp4 p false _law_is_stuck) := by
  refine def_ok (n := 0) F sc__law_is_stuck (fun _ => rfl) rfl fun cdv A outer s H E hr => ?_
  apply Exists.intro
  apply And.intro
  · exact (pss_one (ps_ret (pe_and (pe_cmpR (xo_in p.K) (pv 2) (pv 1) rfl) (pe_and (pe_cmpR (xo_in p.K) (pv 3) (pv 1) rfl) (pe_and (pe_cmpR op_lt (pv 2) (pv 3) (nomark _)) (pe_one (pe_cmpR op_gt (xe_index p.K (pv 0) (pa_cons (pv 2) pa_nil)) (xe_index p.K (pv 0) (pa_cons (pv 3) pa_nil)) (nomark _))))))))
  rintro ⟨v_order_here, v_nailed_here, v_one, v_other⟩
  show Bk p _ [.va (enc (v_order_here : List (Int))), .va (enc (v_nailed_here : List (Int))), .va (enc (v_one : Int)), .va (enc (v_other : Int))] (_law_is_stuck v_order_here v_nailed_here v_one v_other) _
  unfold _law_is_stuck
  exact (k_ret (ev_and (ev_in (ev_var rfl) (ev_var rfl)) (ev_and (ev_in (ev_var rfl) (ev_var rfl)) (ev_and (ev_lt (ev_var rfl) (ev_var rfl)) (ev_gt (ev_index (ev_var rfl) (ev_var rfl)) (ev_index (ev_var rfl) (ev_var rfl)))))))
theorem cal__law_is_stuck (T : Blt mg) (C_ : Csts p mg)  (D_ : Df p.K mg "_law_is_stuck" s__law_is_stuck) : Cal P w p.K mg base "_law_is_stuck" 1 ["_law_order_here", "_law_nailed_here", "_law_one", "_law_other"] (sp4 p false _law_is_stuck) := by
  obtain ⟨fa, fd, F, hm⟩ := D_.ex
  exact ⟨fa, fd, ok__law_is_stuck T C_  F, hm, F.kp, F.binds fun _ _ _ _ _ _ us hl => match us, hl with | [_, _, _, _], _ => rfl⟩

/-! ## _law_right -/
abbrev s__law_right : Stmt := top 44
theorem sc__law_right : FnScope ["_law_order_here", "_law_weights_here", "_law_nailed_here", "_law_stay", "_law_rows", "_law_handed", "_law_built", "_law_again", "_law_books", "_law_many", "_law_due"] ["_law_order_here", "_law_weights_here", "_law_nailed_here", "_law_stay", "_law_rows"] (defScope s__law_right) := ⟨rfl, rfl, rfl, by decide +kernel, rfl, by decide +kernel, by decide +kernel⟩
theorem ok__law_right {fa : Addr} {fd : FuncData} (T : Blt mg) (C_ : Csts p mg) (c_Least : Mak P w p.K mg base "Least" (p.cl 0) 1 ["self", "stay", "rows"] (spI2 p 0 mk_Least)) (c__law_is_least : Cal P w p.K mg base "_law_is_least" 3 ["_law_order_here", "_law_weights_here", "_law_nailed_here", "_law_stay", "_law_rows"] (sp5 p false _law_is_least)) (c__law_says : Cal P w p.K mg base "_law_says" 1 ["_law_said", "_law_due"] (sp2 p false _law_says)) (c_m_shows_3 : Mts P w p.K mg base "shows" 3 (mS3 p false [0, 1] L_ms_shows_3)) (F : Fun p.K "_law_right" "_law_right" s__law_right fa fd) : FnOk P w p.K mg base CX0 4 fa fd ["_law_order_here", "_law_weights_here", "_law_nailed_here", "_law_stay", "_law_rows"] (sp5 p false _law_right) := by
  refine def_ok (n := 6) F sc__law_right (fun _ => rfl) rfl fun cdv A outer s H E hr => ?_
  apply Exists.intro
  apply And.intro
  · exact (pss_cons (ps_set (i := 5) sc__law_right.nd rfl (by first | exact Or.inl rfl | exact Or.inr rfl) (pe_lst (pa_cons (pe_callTy (xc_list p.K) (by rfl) T.list bs_list (pa_cons (pv 3) pa_nil)) (pa_cons (by refine' pe_lc (own := [("_law_books", 8), ("_law_many", 9)]) rfl sc__law_right.nd ?h14i (blkOk_by (N := ["_law_order_here", "_law_weights_here", "_law_nailed_here", "_law_stay", "_law_rows", "_law_handed", "_law_built", "_law_again", "_law_books", "_law_many", "_law_due"]) (sc := defScope s__law_right) (by decide +kernel)) ?h14g ?h14t ?h14e; (case h14i => exact (xi_list p.K (pv 4))); (case h14g => intro _ _ _ _ _; exact (xg_tup (n := 2) p.K rfl (pgs_cons (pg_name (i := 8) sc__law_right.nd rfl (by first | exact Or.inl rfl | exact Or.inr rfl)) (pgs_cons (pg_name (i := 9) sc__law_right.nd rfl (by first | exact Or.inl rfl | exact Or.inr rfl)) pgs_nil)))); (case h14t => intro _ _ _ _ _; exact pts_nil); (case h14e => intro _ _ _ _ _; exact (pe_tup (pa_cons (pe_callTy (xc_list p.K) (by rfl) T.list bs_list (pa_cons (pv 8) pa_nil)) (pa_cons (pv 9) pa_nil))))) pa_nil)))) (pss_cons (ps_par (i := 6) (j := 7) rfl sc__law_right.nd rfl rfl (by decide) rfl rfl (pa_cons (pe_mak c_Least (hr.mono (by decide)) (by rfl) (pa_cons (xe_ixL p.K (pv 5) pe_int (fun _ _ => rfl)) (pa_cons (xe_ixL p.K (pv 5) pe_int (fun _ _ => rfl)) pa_nil))) (pa_cons (pe_mak c_Least (hr.mono (by decide)) (by rfl) (pa_cons (pe_lst pa_nil) (pa_cons (pe_lst pa_nil) pa_nil))) pa_nil)) (by rfl)) (pss_cons (ps_expr (xe_append p.K (xe_ixL p.K (pv 5) pe_int (fun _ _ => rfl)) (pa_cons pe_int pa_nil))) (pss_cons (ps_for PassesOwn.never rfl (xi_list p.K (xe_ixL p.K (pv 5) pe_int (fun _ _ => rfl))) (xg_tup (n := 2) p.K rfl (pgs_cons (pg_name (i := 8) sc__law_right.nd rfl (by first | exact Or.inl rfl | exact Or.inr rfl)) (pgs_cons (pg_name (i := 9) sc__law_right.nd rfl (by first | exact Or.inl rfl | exact Or.inr rfl)) pgs_nil))) (pss_cons (ps_expr (xe_append p.K (pv 8) (pa_cons pe_int pa_nil))) pss_nil)) (pss_cons (ps_expr (xe_append p.K (xe_ixL p.K (pv 5) pe_int (fun _ _ => rfl)) (pa_cons (pe_tup (pa_cons (pe_lst pa_nil) (pa_cons pe_int pa_nil))) pa_nil))) (pss_cons (ps_expr (xe_extend p.K (xe_fld p.K (pv 7)) (pa_cons (pv 3) pa_nil))) (pss_cons (ps_expr (xe_extend p.K (xe_fld p.K (pv 7)) (pa_cons (pv 4) pa_nil))) (pss_cons (ps_set (i := 10) sc__law_right.nd rfl (by first | exact Or.inl rfl | exact Or.inr rfl) (pe_cal c__law_is_least (hr.mono (by decide)) (by rfl) (pa_cons (pv 0) (pa_cons (pv 1) (pa_cons (pv 2) (pa_cons (pv 3) (pa_cons (pv 4) pa_nil))))))) (pss_cons (ps_if (PW.pt (pw_or (pt_cmpR (xo_neD p.K hr.units) (pe_lst (pa_cons (xe_fld p.K (pv 6)) (pa_cons (xe_fld p.K (pv 6)) pa_nil))) (pe_lst (pa_cons (pv 3) (pa_cons (pv 4) pa_nil))) (nomark _)) (pw_or1 (pt_not (pt_val (pe_cal c__law_says (hr.mono (by decide)) (by rfl) (pa_cons (pe_mts c_m_shows_3 (hr.mono (by decide)) (pv 6) (pa_cons (pv 0) (pa_cons (pv 1) (pa_cons (pv 2) pa_nil)))) (pa_cons (pv 10) pa_nil)))))))) (pss_one (ps_ret pe_bl)) pss_nil) (pss_one (ps_ret (pe_cal c__law_says (hr.mono (by decide)) (by rfl) (pa_cons (pe_mts c_m_shows_3 (hr.mono (by decide)) (pv 7) (pa_cons (pv 0) (pa_cons (pv 1) (pa_cons (pv 2) pa_nil)))) (pa_cons (pv 10) pa_nil))))))))))))))
  rintro ⟨v_order_here, v_weights_here, v_nailed_here, v_stay, v_rows⟩
  show Bk p _ [.va (enc (v_order_here : List (Int))), .va (enc (v_weights_here : List (Int))), .va (enc (v_nailed_here : List (Int))), .va (enc (v_stay : List (Int))), .va (enc (v_rows : List ((List (Int)) × (Int)))), .fr, .fr, .fr, .fr, .fr, .fr] (_law_right v_order_here v_weights_here v_nailed_here v_stay v_rows) _
  unfold _law_right
  exact (k_asgN (en_du (en_own (ev_list (ev_var rfl))) (en_lc (ei_list (ev_var rfl)) (fun _ => (tg_tup (tgs_cons tg_name (tgs_cons tg_name tgs_nil)))) (fun _ h => h) (fun _ => et_yes) (fun _ => (en_tup2 (en_own (ev_list (ev_var rfl))) (en_imm (ev_var rfl)))))) (fun v_handed_50 => (k_parX (ex_va ((en_frz (.dn 5 rfl .refl) (en_make2 (ev_at (get := Du.a) (ev_var rfl) (fun _ _ _ _ q => q) (fun _ => ⟨_, rfl, rfl, rfl⟩)) (ev_at (get := Du.b) (ev_var rfl) (fun _ _ _ _ q => q) (fun _ => ⟨_, rfl, rfl, rfl⟩))))).ev) (ex_dn (en_make2 ((ev_lst es_nil)).weak ((ev_lst es_nil)).weak)) (fun v_built_51 v_again_56 => (k_appL rfl (lens_at (get := Du.a) (rep := fun b c => { b with a := c }) lens_var (fun _ _ _ _ q => q) (fun _ => ⟨_, rfl, rfl, rfl, fun _ => rfl⟩)) (en_imm ev_int) (fun v_handed_62 => (k_seq (k_forT (i := 5) (j := 8) (j2 := 9) (f := fun (v_books_69 : List (Int)) => ((some v_books_69).bind fun l73 => ((some (0 : Int))).bind fun x75 => (app? l73 x75).bind fun l76 => (some l76).bind fun (v_books_74 : List (Int)) => (some v_books_74))) rfl (lens_at (get := Du.b) (rep := fun b c => { b with b := c }) lens_var (fun _ _ _ _ q => q) (fun _ => ⟨_, rfl, rfl, rfl, fun _ => rfl⟩)) (by decide) (by simp) (by decide) (by decide) (fun _ => ⟨_, rfl⟩) (fun w67 b68 v_books_69 x72 => (k_appL rfl lens_var (en_imm ev_int) (fun v_books_74 => (k_end (le_r (le_r (le_r (le_r (le_r (le_r (le_r (le_r (le_r (le_f (le_f le_nil)))))))))))))))) (fun v_handed_70 => (k_appL rfl (lens_at (get := Du.b) (rep := fun b c => { b with b := c }) lens_var (fun _ _ _ _ q => q) (fun _ => ⟨_, rfl, rfl, rfl, fun _ => rfl⟩)) (en_tup2 (en_own (ev_lst es_nil)) (en_imm ev_int)) (fun v_handed_80 => (k_extL rfl (lens_stayL lens_var C_.cls_0.cls C_.na_0_stay) (ev_var rfl) (fun v_again_90 => (k_extF1 (get := Ans.rows?) (rep := Ans.setRows?) (f0 := "stay") rfl (by decide +kernel) (fun b c e => by cases b <;> cases e; exact ⟨0, _, rfl, C_.cls_0.cls, C_.na_0_rows, fun c' b' e' => by cases e'; rfl⟩) (ev_var rfl) (fun v_again_96 => (k_asg (ev_call5 (ev_var rfl) (ev_var rfl) (ev_var rfl) (ev_var rfl) (ev_var rfl)) (fun v_due_104 => (k_ifR (et_or (et_test (ev_neD (ev_du (ev_stayL (ev_var rfl) C_.cls_0.cls C_.na_0_stay) (ev_rows (ev_var rfl) C_.cls_0.cls C_.na_0_rows)) (ev_du (ev_var rfl) (ev_var rfl)))) (et_not (et_B (ev_call2 (ev_meth3 (ev_var rfl) (ev_var rfl) (ev_var rfl) (ev_var rfl) ans_shows) (ev_var rfl))))) (k_ret ev_bl) (k_ret (ev_call2 (ev_meth3 (ev_var rfl) (ev_var rfl) (ev_var rfl) (ev_var rfl) ans_shows) (ev_var rfl))))))))))))))))))))
theorem cal__law_right (T : Blt mg) (C_ : Csts p mg) (c_Least : Mak P w p.K mg base "Least" (p.cl 0) 1 ["self", "stay", "rows"] (spI2 p 0 mk_Least)) (c__law_is_least : Cal P w p.K mg base "_law_is_least" 3 ["_law_order_here", "_law_weights_here", "_law_nailed_here", "_law_stay", "_law_rows"] (sp5 p false _law_is_least)) (c__law_says : Cal P w p.K mg base "_law_says" 1 ["_law_said", "_law_due"] (sp2 p false _law_says)) (c_m_shows_3 : Mts P w p.K mg base "shows" 3 (mS3 p false [0, 1] L_ms_shows_3)) (D_ : Df p.K mg "_law_right" s__law_right) : Cal P w p.K mg base "_law_right" 4 ["_law_order_here", "_law_weights_here", "_law_nailed_here", "_law_stay", "_law_rows"] (sp5 p false _law_right) := by
  obtain ⟨fa, fd, F, hm⟩ := D_.ex
  exact ⟨fa, fd, ok__law_right T C_ c_Least c__law_is_least c__law_says c_m_shows_3 F, hm, F.kp, F.binds fun _ _ _ _ _ _ us hl => match us, hl with | [_, _, _, _, _], _ => rfl⟩

/-! ## _law_bent -/
abbrev s__law_bent : Stmt := top 45
theorem sc__law_bent : FnScope ["_law_row", "_law_at", "_law_book", "_law_found", "_law_some"] ["_law_row", "_law_at", "_law_book"] (defScope s__law_bent) := ⟨rfl, rfl, rfl, by decide +kernel, rfl, by decide +kernel, by decide +kernel⟩
theorem ok__law_bent {fa : Addr} {fd : FuncData} (T : Blt mg) (C_ : Csts p mg)  (F : Fun p.K "_law_bent" "_law_bent" s__law_bent fa fd) : FnOk P w p.K mg base CX0 1 fa fd ["_law_row", "_law_at", "_law_book"] (sp3 p false _law_bent) := by
  refine def_ok (n := 2) F sc__law_bent (fun _ => rfl) rfl fun cdv A outer s H E hr => ?_
  apply Exists.intro
  apply And.intro
  · exact (pss_cons (ps_set (i := 3) sc__law_bent.nd rfl (by first | exact Or.inl rfl | exact Or.inr rfl) (pe_lst (pa_cons (xe_rev p.K (pv 0)) (pa_cons (pe_op op_cat (pv 0) (pe_slice (xs_list p.K) (pv 0) (po_some (pe_un un_neg pe_int)) po_none)) (pa_cons (pe_op op_cat (pv 0) (pe_lst (pa_cons (pv 2) pa_nil))) (pa_cons (pe_op op_cat (pe_lst (pa_cons (pv 2) pa_nil)) (pv 0)) (pa_cons (pe_lst pa_nil) (pa_cons (pe_op op_cat (pv 0) (pe_lst (pa_cons (pe_un un_neg pe_int) pa_nil))) (pa_cons (pe_op op_cat (pv 0) (pe_lst (pa_cons (pe_op op_pow pe_int pe_int) pa_nil))) pa_nil))))))))) (pss_cons (ps_if (pt_cmpR (xo_neD p.K hr.units) (pv 0) (pe_lst pa_nil) (nomark _)) (pss_cons (ps_set (i := 1) sc__law_bent.nd rfl (by first | exact Or.inl rfl | exact Or.inr rfl) (pe_op op_modN (pv 1) (pe_callB (xc_len p.K) (by rfl) T.len bs_len (pa_cons (pv 0) pa_nil)))) (pss_cons (ps_set (i := 3) sc__law_bent.nd rfl (by first | exact Or.inl rfl | exact Or.inr rfl) (pe_op op_cat (pv 3) (by refine' pe_lc (own := [("_law_some", 4)]) rfl sc__law_bent.nd ?h95i (blkOk_by (N := ["_law_row", "_law_at", "_law_book", "_law_found", "_law_some"]) (sc := defScope s__law_bent) (by decide +kernel)) ?h95g ?h95t ?h95e; (case h95i => exact (xi_tup p.K (pe_tup (pa_cons (pe_lst pa_nil) (pa_cons (pe_lst (pa_cons (pv 2) pa_nil)) (pa_cons (pe_lst (pa_cons (pe_op op_add (xe_ixL p.K (pv 0) (pv 1) (fun _ _ => rfl)) pe_int) pa_nil)) (pa_cons (pe_lst (pa_cons (pe_op op_sub (xe_ixL p.K (pv 0) (pv 1) (fun _ _ => rfl)) pe_int) pa_nil)) pa_nil))))))); (case h95g => intro _ _ _ _ _; exact (pg_name (i := 4) sc__law_bent.nd rfl (by first | exact Or.inl rfl | exact Or.inr rfl))); (case h95t => intro _ _ _ _ _; exact pts_nil); (case h95e => intro _ _ _ _ _; exact (pe_op op_cat (pe_op op_cat (pe_slice (xs_list p.K) (pv 0) po_none (po_some (pv 1))) (pv 4)) (pe_slice (xs_list p.K) (pv 0) (po_some (pe_op op_add (pv 1) pe_int)) po_none)))))) pss_nil)) pss_nil) (pss_one (ps_ret (pv 3)))))
  rintro ⟨v_row, v_at, v_book⟩
  show Bk p _ [.va (enc (v_row : List (Int))), .va (enc (v_at : Int)), .va (enc (v_book : Int)), .fr, .fr] (_law_bent v_row v_at v_book) _
  unfold _law_bent
  exact (k_asg ((ev_lst (es_cons ((ev_rev (ev_var rfl))).weak (es_cons ((ev_cat (ev_var rfl) ((ev_slice (ev_var rfl) (eo_some (ev_neg ev_int)) eo_none)).weak)).weak (es_cons ((ev_cat (ev_var rfl) ((ev_lst (es_cons (ev_var rfl) es_nil))).weak)).weak (es_cons ((ev_cat ((ev_lst (es_cons (ev_var rfl) es_nil))).weak (ev_var rfl))).weak (es_cons ((ev_lst es_nil)).weak (es_cons ((ev_cat (ev_var rfl) ((ev_lst (es_cons (ev_neg ev_int) es_nil))).weak)).weak (es_cons ((ev_cat (ev_var rfl) ((ev_lst (es_cons (ev_pow ev_int ev_int) es_nil))).weak)).weak es_nil))))))))).weak (fun v_found_43 => (k_seq (envN := fun (s99 : (List (List (Int)))) => [.va (enc (v_row : List (Int))), .fr, .va (enc (v_book : Int)), .va (enc (s99 : List (List (Int)))), .fr]) (k_if (et_test (ev_neD (ev_var rfl) ((ev_lst es_nil)).weak)) (k_asg (ev_fmod (ev_var rfl) (ev_len (ev_var rfl))) (fun v_at_50 => (k_asg ((ev_cat (ev_var rfl) ((ev_lc (ei_tup (ev_tupH (es_cons ((ev_lst es_nil)).weak (es_cons ((ev_lst (es_cons (ev_var rfl) es_nil))).weak (es_cons ((ev_lst (es_cons (ev_add (ev_ixL (ev_var rfl) (ev_var rfl)) ev_int) es_nil))).weak (es_cons ((ev_lst (es_cons (ev_sub (ev_ixL (ev_var rfl) (ev_var rfl)) ev_int) es_nil))).weak es_nil)))))) (fun _ => tg_name) (fun _ h => h) (fun _ => et_yes) (fun _ => ((ev_cat ((ev_cat ((ev_slice (ev_var rfl) eo_none (eo_some (ev_var rfl)))).weak (ev_var rfl))).weak ((ev_slice (ev_var rfl) (eo_some (ev_add (ev_var rfl) ev_int)) eo_none)).weak)).weak))).weak)).weak (fun v_found_98 => (k_end (le_r (le_f (le_r (le_r (le_f le_nil)))))))))) (k_end (le_r (le_f (le_r (le_r (le_f le_nil))))))) (fun s99 => (k_ret (ev_var rfl))))))
theorem cal__law_bent (T : Blt mg) (C_ : Csts p mg)  (D_ : Df p.K mg "_law_bent" s__law_bent) : Cal P w p.K mg base "_law_bent" 1 ["_law_row", "_law_at", "_law_book"] (sp3 p false _law_bent) := by
  obtain ⟨fa, fd, F, hm⟩ := D_.ex
  exact ⟨fa, fd, ok__law_bent T C_  F, hm, F.kp, F.binds fun _ _ _ _ _ _ us hl => match us, hl with | [_, _, _], _ => rfl⟩

/-! ## _law_lots -/
abbrev s__law_lots : Stmt := top 46
theorem sc__law_lots : FnScope ["_law_stay", "_law_rows", "_law_whole", "_law_many", "_law_book", "_law_lots_here", "_law_at", "_law_spot", "_law_books", "_law_count", "_law_some", "_law_more", "_law_row"] ["_law_stay", "_law_rows", "_law_whole", "_law_many"] (defScope s__law_lots) := ⟨rfl, rfl, rfl, by decide +kernel, rfl, by decide +kernel, by decide +kernel⟩
theorem ok__law_lots {fa : Addr} {fd : FuncData} (T : Blt mg) (C_ : Csts p mg) (c__law_bent : Cal P w p.K mg base "_law_bent" 1 ["_law_row", "_law_at", "_law_book"] (sp3 p false _law_bent)) (F : Fun p.K "_law_lots" "_law_lots" s__law_lots fa fd) : FnOk P w p.K mg base CX0 2 fa fd ["_law_stay", "_law_rows", "_law_whole", "_law_many"] (sp4 p false _law_lots) := by
  refine def_ok (n := 9) F sc__law_lots (fun _ => rfl) rfl fun cdv A outer s H E hr => ?_
  apply Exists.intro
  apply And.intro
  · exact (pss_cons (ps_par (i := 4) (j := 5) rfl sc__law_lots.nd rfl rfl (by decide) rfl rfl (pa_cons (pe_op op_modN (pv 2) (pv 3)) (pa_cons (pe_lst (pa_cons (pe_tup (pa_cons (pv 0) (pa_cons (pv 1) pa_nil))) (pa_cons (pe_tup (pa_cons (pv 0) (pa_cons (pe_lst pa_nil) pa_nil))) (pa_cons (pe_tup (pa_cons (pe_lst pa_nil) (pa_cons (pv 1) pa_nil))) (pa_cons (pe_tup (pa_cons (pv 0) (pa_cons (xe_rev p.K (pv 1)) pa_nil))) (pa_cons (pe_tup (pa_cons (pv 0) (pa_cons (pe_op op_cat (pv 1) (pe_lst (pa_cons (pe_tup (pa_cons (pe_lst pa_nil) (pa_cons pe_int pa_nil))) pa_nil))) pa_nil))) pa_nil)))))) pa_nil)) (by rfl)) (pss_cons (ps_for PassesOwn.never rfl (xi_tup p.K (pe_tup (pa_cons (pe_op op_fdivN (pv 2) pe_int) (pa_cons (pe_un un_neg pe_int) pa_nil)))) (pg_name (i := 6) sc__law_lots.nd rfl (by first | exact Or.inl rfl | exact Or.inr rfl)) (pss_cons (ps_set (i := 5) sc__law_lots.nd rfl (by first | exact Or.inl rfl | exact Or.inr rfl) (pe_op op_cat (pv 5) (by refine' pe_lc (own := [("_law_some", 10)]) rfl sc__law_lots.nd ?h52i (blkOk_by (N := ["_law_stay", "_law_rows", "_law_whole", "_law_many", "_law_book", "_law_lots_here", "_law_at", "_law_spot", "_law_books", "_law_count", "_law_some", "_law_more", "_law_row"]) (sc := defScope s__law_lots) (by decide +kernel)) ?h52g ?h52t ?h52e; (case h52i => exact (xi_list p.K (pe_cal c__law_bent (hr.mono (by decide)) (by rfl) (pa_cons (pv 0) (pa_cons (pv 6) (pa_cons (pv 4) pa_nil)))))); (case h52g => intro _ _ _ _ _; exact (pg_name (i := 10) sc__law_lots.nd rfl (by first | exact Or.inl rfl | exact Or.inr rfl))); (case h52t => intro _ _ _ _ _; exact pts_nil); (case h52e => intro _ _ _ _ _; exact (pe_tup (pa_cons (pv 10) (pa_cons (pv 1) pa_nil))))))) (pss_cons (ps_if (pt_cmpR (xo_neD p.K hr.units) (pv 1) (pe_lst pa_nil) (nomark _)) (pss_cons (ps_set (i := 7) sc__law_lots.nd rfl (by first | exact Or.inl rfl | exact Or.inr rfl) (pe_op op_modN (pv 6) (pe_callB (xc_len p.K) (by rfl) T.len bs_len (pa_cons (pv 1) pa_nil)))) (pss_cons (ps_asg (xe_ixL p.K (pv 1) (pv 7) (fun _ _ => rfl)) (xg_tup (n := 2) p.K rfl (pgs_cons (pg_name (i := 8) sc__law_lots.nd rfl (by first | exact Or.inl rfl | exact Or.inr rfl)) (pgs_cons (pg_name (i := 9) sc__law_lots.nd rfl (by first | exact Or.inl rfl | exact Or.inr rfl)) pgs_nil)))) (pss_cons (by refine' ps_setLc (i := 10) (own := [("_law_row", 12)]) rfl sc__law_lots.nd rfl rfl (sw_true rfl rfl rfl (by decide +kernel)) ?h75i (blkOk_by (N := ["_law_stay", "_law_rows", "_law_whole", "_law_many", "_law_book", "_law_lots_here", "_law_at", "_law_spot", "_law_books", "_law_count", "_law_some", "_law_more", "_law_row"]) (sc := defScope s__law_lots) (by decide +kernel)) ?h75g ?h75t ?h75e; (case h75i => exact (xi_list p.K (pe_cal c__law_bent (hr.mono (by decide)) (by rfl) (pa_cons (pv 8) (pa_cons (pe_op op_fdivN (pv 2) pe_int) (pa_cons (pv 4) pa_nil)))))); (case h75g => intro _ _ _ _ _; exact (pg_name (i := 12) sc__law_lots.nd rfl (by first | exact Or.inl rfl | exact Or.inr rfl))); (case h75t => intro _ _ _ _ _; exact pts_nil); (case h75e => intro _ _ _ _ _; exact (pe_tup (pa_cons (pv 12) (pa_cons (pv 9) pa_nil))))) (pss_cons (ps_set (i := 10) sc__law_lots.nd rfl (by first | exact Or.inl rfl | exact Or.inr rfl) (pe_op op_cat (pv 10) (by refine' pe_lc (own := [("_law_more", 11)]) rfl sc__law_lots.nd ?h102i (blkOk_by (N := ["_law_stay", "_law_rows", "_law_whole", "_law_many", "_law_book", "_law_lots_here", "_law_at", "_law_spot", "_law_books", "_law_count", "_law_some", "_law_more", "_law_row"]) (sc := defScope s__law_lots) (by decide +kernel)) ?h102g ?h102t ?h102e; (case h102i => exact (xi_tup p.K (pe_tup (pa_cons (pe_op op_add (pv 9) pe_int) (pa_cons (pe_op op_sub (pv 9) pe_int) (pa_cons pe_int (pa_cons (pe_un un_neg pe_int) (pa_cons (pe_op op_pow pe_int pe_int) pa_nil)))))))); (case h102g => intro _ _ _ _ _; exact (pg_name (i := 11) sc__law_lots.nd rfl (by first | exact Or.inl rfl | exact Or.inr rfl))); (case h102t => intro _ _ _ _ _; exact pts_nil); (case h102e => intro _ _ _ _ _; exact (pe_tup (pa_cons (pv 8) (pa_cons (pv 11) pa_nil))))))) (pss_cons (ps_set (i := 5) sc__law_lots.nd rfl (by first | exact Or.inl rfl | exact Or.inr rfl) (pe_op op_cat (pv 5) (by refine' pe_lc (own := [("_law_row", 12)]) rfl sc__law_lots.nd ?h126i (blkOk_by (N := ["_law_stay", "_law_rows", "_law_whole", "_law_many", "_law_book", "_law_lots_here", "_law_at", "_law_spot", "_law_books", "_law_count", "_law_some", "_law_more", "_law_row"]) (sc := defScope s__law_lots) (by decide +kernel)) ?h126g ?h126t ?h126e; (case h126i => exact (xi_list p.K (pv 10))); (case h126g => intro _ _ _ _ _; exact (pg_name (i := 12) sc__law_lots.nd rfl (by first | exact Or.inl rfl | exact Or.inr rfl))); (case h126t => intro _ _ _ _ _; exact pts_nil); (case h126e => intro _ _ _ _ _; exact (pe_tup (pa_cons (pv 0) (pa_cons (pe_op op_cat (pe_op op_cat (pe_slice (xs_list p.K) (pv 1) po_none (po_some (pv 7))) (pe_lst (pa_cons (pv 12) pa_nil))) (pe_slice (xs_list p.K) (pv 1) (po_some (pe_op op_add (pv 7) pe_int)) po_none)) pa_nil))))))) (pss_cons (ps_set (i := 5) sc__law_lots.nd rfl (by first | exact Or.inl rfl | exact Or.inr rfl) (pe_op op_cat (pv 5) (pe_lst (pa_cons (pe_tup (pa_cons (pv 0) (pa_cons (pe_op op_cat (pe_slice (xs_list p.K) (pv 1) po_none (po_some (pv 7))) (pe_slice (xs_list p.K) (pv 1) (po_some (pe_op op_add (pv 7) pe_int)) po_none)) pa_nil))) (pa_cons (pe_tup (pa_cons (pv 0) (pa_cons (pe_op op_cat (pe_slice (xs_list p.K) (pv 1) po_none (po_some (pe_op op_add (pv 7) pe_int))) (pe_slice (xs_list p.K) (pv 1) (po_some (pv 7)) po_none)) pa_nil))) pa_nil))))) pss_nil)))))) pss_nil) pss_nil))) (pss_one (ps_ret (pv 5)))))
  rintro ⟨v_stay, v_rows, v_whole, v_many⟩
  show Bk p _ [.va (enc (v_stay : List (Int))), .va (enc (v_rows : List ((List (Int)) × (Int)))), .va (enc (v_whole : Int)), .va (enc (v_many : Int)), .fr, .fr, .fr, .fr, .fr, .fr, .fr, .fr, .fr] (_law_lots v_stay v_rows v_whole v_many) _
  unfold _law_lots
  exact (k_par (ev_fmod (ev_var rfl) (ev_var rfl)) ((ev_lst (es_cons (ev_tup2 (ev_var rfl) (ev_var rfl)) (es_cons (ev_tup2 (ev_var rfl) ((ev_lst es_nil)).weak) (es_cons (ev_tup2 ((ev_lst es_nil)).weak (ev_var rfl)) (es_cons (ev_tup2 (ev_var rfl) ((ev_rev (ev_var rfl))).weak) (es_cons (ev_tup2 (ev_var rfl) ((ev_cat (ev_var rfl) ((ev_lst (es_cons (ev_tup2 ((ev_lst es_nil)).weak ev_int) es_nil))).weak)).weak) es_nil))))))).weak (fun v_book_30 v_lots_here_31 => (k_seq (k_for (envS := fun (s32 : (List ((List (Int)) × (List ((List (Int)) × (Int)))))) => [.va (enc (v_stay : List (Int))), .va (enc (v_rows : List ((List (Int)) × (Int)))), .va (enc (v_whole : Int)), .va (enc (v_many : Int)), .va (enc (v_book_30 : Int)), .va (enc (s32 : List ((List (Int)) × (List ((List (Int)) × (Int)))))), .fr, .fr, .fr, .fr, .fr, .fr, .fr]) (ei_tup (ev_tupH (es_cons (ev_fdiv (ev_var rfl) ev_int) (es_cons (ev_neg ev_int) es_nil)))) (le_r (le_r (le_r (le_r (le_r (le_r (le_f (le_f (le_f (le_f (le_f (le_f (le_f le_nil))))))))))))) (fun _ _ => tg_name) (fun s32 a44 => (k_asg ((ev_cat (ev_var rfl) ((ev_lc (ei_list (ev_call3 (ev_var rfl) (ev_var rfl) (ev_var rfl))) (fun _ => tg_name) (fun _ h => h) (fun _ => et_yes) (fun _ => (ev_tup2 (ev_var rfl) (ev_var rfl))))).weak)).weak (fun v_lots_here_55 => (k_seq (envN := fun (s165 : (List ((List (Int)) × (List ((List (Int)) × (Int)))))) => [.va (enc (v_stay : List (Int))), .va (enc (v_rows : List ((List (Int)) × (Int)))), .va (enc (v_whole : Int)), .va (enc (v_many : Int)), .va (enc (v_book_30 : Int)), .va (enc (s165 : List ((List (Int)) × (List ((List (Int)) × (Int)))))), .va (enc (a44 : Int)), .fr, .fr, .fr, .fr, .fr, .fr]) (k_if (et_test (ev_neD (ev_var rfl) ((ev_lst es_nil)).weak)) (k_asg (ev_fmod (ev_var rfl) (ev_len (ev_var rfl))) (fun v_spot_62 => (k_unp (ev_ixL (ev_var rfl) (ev_var rfl)) (fun _ => (tg_tup (tgs_cons tg_name (tgs_cons tg_name tgs_nil)))) (fun z65 => (k_asg ((ev_lc (ei_list (ev_call3 (ev_var rfl) (ev_fdiv (ev_var rfl) ev_int) (ev_var rfl))) (fun _ => tg_name) (fun _ h => h) (fun _ => et_yes) (fun _ => (ev_tup2 (ev_var rfl) (ev_var rfl))))).weak (fun v_some_76 => (k_asg ((ev_cat (ev_var rfl) ((ev_lc (ei_tup (ev_tupH (es_cons (ev_add (ev_var rfl) ev_int) (es_cons (ev_sub (ev_var rfl) ev_int) (es_cons ev_int (es_cons (ev_neg ev_int) (es_cons (ev_pow ev_int ev_int) es_nil))))))) (fun _ => tg_name) (fun _ h => h) (fun _ => et_yes) (fun _ => (ev_tup2 (ev_var rfl) (ev_var rfl))))).weak)).weak (fun v_some_105 => (k_asg ((ev_cat (ev_var rfl) ((ev_lc (ei_list (ev_var rfl)) (fun _ => tg_name) (fun _ h => h) (fun _ => et_yes) (fun _ => (ev_tup2 (ev_var rfl) ((ev_cat ((ev_cat ((ev_slice (ev_var rfl) eo_none (eo_some (ev_var rfl)))).weak ((ev_lst (es_cons (ev_var rfl) es_nil))).weak)).weak ((ev_slice (ev_var rfl) (eo_some (ev_add (ev_var rfl) ev_int)) eo_none)).weak)).weak)))).weak)).weak (fun v_lots_here_129 => (k_asg ((ev_cat (ev_var rfl) ((ev_lst (es_cons (ev_tup2 (ev_var rfl) ((ev_cat ((ev_slice (ev_var rfl) eo_none (eo_some (ev_var rfl)))).weak ((ev_slice (ev_var rfl) (eo_some (ev_add (ev_var rfl) ev_int)) eo_none)).weak)).weak) (es_cons (ev_tup2 (ev_var rfl) ((ev_cat ((ev_slice (ev_var rfl) eo_none (eo_some (ev_add (ev_var rfl) ev_int)))).weak ((ev_slice (ev_var rfl) (eo_some (ev_var rfl)) eo_none)).weak)).weak) es_nil)))).weak)).weak (fun v_lots_here_164 => (k_end (le_r (le_r (le_r (le_r (le_r (le_r (le_r (le_f (le_f (le_f (le_f (le_f (le_f le_nil)))))))))))))))))))))))))) (k_end (le_r (le_r (le_r (le_r (le_r (le_r (le_r (le_f (le_f (le_f (le_f (le_f (le_f le_nil))))))))))))))) (fun s165 => (k_end (le_r (le_r (le_r (le_r (le_r (le_r (le_f (le_f (le_f (le_f (le_f (le_f (le_f le_nil)))))))))))))))))))) (fun s32 => (k_ret (ev_var rfl))))))
theorem cal__law_lots (T : Blt mg) (C_ : Csts p mg) (c__law_bent : Cal P w p.K mg base "_law_bent" 1 ["_law_row", "_law_at", "_law_book"] (sp3 p false _law_bent)) (D_ : Df p.K mg "_law_lots" s__law_lots) : Cal P w p.K mg base "_law_lots" 2 ["_law_stay", "_law_rows", "_law_whole", "_law_many"] (sp4 p false _law_lots) := by
  obtain ⟨fa, fd, F, hm⟩ := D_.ex
  exact ⟨fa, fd, ok__law_lots T C_ c__law_bent F, hm, F.kp, F.binds fun _ _ _ _ _ _ us hl => match us, hl with | [_, _, _, _], _ => rfl⟩

/-! ## law -/
abbrev s_law : Stmt := top 47
theorem sc_law : FnScope ["_law_script", "_law_whole", "_law_by", "_law_order_here", "_law_many", "_law_weights_here", "_law_nailed_here", "_law_found", "_law_stay", "_law_rows", "_law_some", "_law_others", "_law_pairs", "_law_one", "_law_other", "_law_built"] ["_law_script"] (defScope s_law) := ⟨rfl, rfl, rfl, by decide +kernel, rfl, by decide +kernel, by decide +kernel⟩
theorem ok_law {fa : Addr} {fd : FuncData} (T : Blt mg) (C_ : Csts p mg) (c_Least : Mak P w p.K mg base "Least" (p.cl 0) 1 ["self", "stay", "rows"] (spI2 p 0 mk_Least)) (c_Stuck : Mak P w p.K mg base "Stuck" (p.cl 1) 1 ["self", "one", "other"] (spI2 p 1 mk_Stuck)) (c__law_is_stuck : Cal P w p.K mg base "_law_is_stuck" 1 ["_law_order_here", "_law_nailed_here", "_law_one", "_law_other"] (sp4 p false _law_is_stuck)) (c__law_lots : Cal P w p.K mg base "_law_lots" 2 ["_law_stay", "_law_rows", "_law_whole", "_law_many"] (sp4 p false _law_lots)) (c__law_nailed : Cal P w p.K mg base "_law_nailed" 2 ["_law_script", "_law_by", "_law_many"] (sp3 p true _law_nailed)) (c__law_order : Cal P w p.K mg base "_law_order" 2 ["_law_script", "_law_by", "_law_most"] (sp3 p true _law_order)) (c__law_right : Cal P w p.K mg base "_law_right" 4 ["_law_order_here", "_law_weights_here", "_law_nailed_here", "_law_stay", "_law_rows"] (sp5 p false _law_right)) (c__law_says : Cal P w p.K mg base "_law_says" 1 ["_law_said", "_law_due"] (sp2 p false _law_says)) (c__law_weights : Cal P w p.K mg base "_law_weights" 2 ["_law_script", "_law_by", "_law_many"] (sp3 p true _law_weights)) (c_least : Cal P w p.K mg base "least" 6 ["order", "weights", "nailed"] (spD3 p least)) (c_m_shows_3 : Mts P w p.K mg base "shows" 3 (mS3 p false [0, 1] L_ms_shows_3)) (F : Fun p.K "law" "law" s_law fa fd) : FnOk P w p.K mg base CX0 7 fa fd ["_law_script"] (sp1 p false law) := by
  refine def_ok (n := 15) F sc_law (fun _ => rfl) rfl fun cdv A outer s H E hr => ?_
  apply Exists.intro
  apply And.intro
  · exact (pss_cons (ps_set (i := 1) sc_law.nd rfl (by first | exact Or.inl rfl | exact Or.inr rfl) (pe_callB (xc_sum p.K) (by rfl) T.sum bs_sum (pa_cons (pe_slice (xs_list p.K) (pv 0) po_none (po_some pe_int)) pa_nil))) (pss_cons (ps_for PassesOwn.never rfl (pi_range1 (by rfl) T.range (pa_cons pe_int pa_nil)) (pg_name (i := 2) sc_law.nd rfl (by first | exact Or.inl rfl | exact Or.inr rfl)) (pss_cons (ps_set (i := 3) sc_law.nd rfl (by first | exact Or.inl rfl | exact Or.inr rfl) (pe_cal c__law_order (hr.mono (by decide)) (by rfl) (pa_cons (pv 0) (pa_cons (pv 2) (pa_cons (pe_ifExp (pt_cmpR op_eq (pe_op op_modN (pv 1) pe_int) (pv 2) (nomark _)) pe_int pe_int) pa_nil))))) (pss_cons (ps_set (i := 4) sc_law.nd rfl (by first | exact Or.inl rfl | exact Or.inr rfl) (pe_callB (xc_len p.K) (by rfl) T.len bs_len (pa_cons (pv 3) pa_nil))) (pss_cons (ps_par (i := 5) (j := 6) rfl sc_law.nd rfl rfl (by decide) rfl rfl (pa_cons (pe_cal c__law_weights (hr.mono (by decide)) (by rfl) (pa_cons (pv 0) (pa_cons (pv 2) (pa_cons (pv 4) pa_nil)))) (pa_cons (pe_cal c__law_nailed (hr.mono (by decide)) (by rfl) (pa_cons (pv 0) (pa_cons (pv 2) (pa_cons (pv 4) pa_nil)))) pa_nil)) (by rfl)) (pss_cons (ps_set (i := 7) sc_law.nd rfl (by first | exact Or.inl rfl | exact Or.inr rfl) (pe_cal c_least (hr.mono (by decide)) (by rfl) (pa_cons (pv 3) (pa_cons (pv 5) (pa_cons (pv 6) pa_nil))))) (pss_cons (ps_asg (pe_ifExp (pt_val (pe_callB (xc_isi p.K) (by rfl) T.isinstance bs_isinstance (pa_cons (pv 7) (pa_cons (pe_glob (v := .ref (p.cl 1)) (by rfl) C_.cls_1.at_ rfl) pa_nil)))) (pe_tup (pa_cons (pe_lst pa_nil) (pa_cons (pe_lst pa_nil) pa_nil))) (pe_tup (pa_cons (pe_callTy (xc_list p.K) (by rfl) T.list bs_list (pa_cons (xe_fld p.K (pv 7)) pa_nil)) (pa_cons (pe_callTy (xc_list p.K) (by rfl) T.list bs_list (pa_cons (xe_fld p.K (pv 7)) pa_nil)) pa_nil)))) (xg_tup (n := 2) p.K rfl (pgs_cons (pg_name (i := 8) sc_law.nd rfl (by first | exact Or.inl rfl | exact Or.inr rfl)) (pgs_cons (pg_name (i := 9) sc_law.nd rfl (by first | exact Or.inl rfl | exact Or.inr rfl)) pgs_nil)))) (pss_cons (ps_for PassesOwn.never rfl (xi_list p.K (pe_cal c__law_lots (hr.mono (by decide)) (by rfl) (pa_cons (pv 8) (pa_cons (pv 9) (pa_cons (pe_op op_fdivN (pv 1) pe_int) (pa_cons (pv 4) pa_nil)))))) (xg_tup (n := 2) p.K rfl (pgs_cons (pg_name (i := 10) sc_law.nd rfl (by first | exact Or.inl rfl | exact Or.inr rfl)) (pgs_cons (pg_name (i := 11) sc_law.nd rfl (by first | exact Or.inl rfl | exact Or.inr rfl)) pgs_nil))) (pss_cons (ps_if (pt_not (pt_val (pe_cal c__law_right (hr.mono (by decide)) (by rfl) (pa_cons (pv 3) (pa_cons (pv 5) (pa_cons (pv 6) (pa_cons (pv 10) (pa_cons (pv 11) pa_nil)))))))) (pss_one (ps_ret pe_bl)) pss_nil) pss_nil)) (pss_cons (ps_set (i := 12) sc_law.nd rfl (by first | exact Or.inl rfl | exact Or.inr rfl) (pe_op op_cat (xe_listZip p.K rfl (by rfl) T.list (by rfl) T.zip (pa_cons (pv 6) (pa_cons (pe_slice (xs_list p.K) (pv 6) (po_some pe_int) po_none) pa_nil))) (pe_lst (pa_cons (pe_tup (pa_cons pe_int (pa_cons (pe_op op_sub (pv 4) pe_int) pa_nil))) (pa_cons (pe_tup (pa_cons (pe_op op_sub (pv 4) pe_int) (pa_cons pe_int pa_nil))) (pa_cons (pe_tup (pa_cons (pe_un un_neg pe_int) (pa_cons (pe_op op_pow pe_int pe_int) pa_nil))) pa_nil)))))) (pss_cons (ps_for PassesOwn.never rfl (xi_list p.K (pe_op op_cat (pv 12) (pe_lst (pa_cons (pe_tup (pa_cons (pe_op op_modN (pv 1) (pv 4)) (pa_cons (pe_op op_modN (pe_op op_fdivN (pv 1) pe_int) (pv 4)) pa_nil))) (pa_cons (pe_tup (pa_cons pe_int (pa_cons pe_int pa_nil))) pa_nil))))) (xg_tup (n := 2) p.K rfl (pgs_cons (pg_name (i := 13) sc_law.nd rfl (by first | exact Or.inl rfl | exact Or.inr rfl)) (pgs_cons (pg_name (i := 14) sc_law.nd rfl (by first | exact Or.inl rfl | exact Or.inr rfl)) pgs_nil))) (pss_cons (ps_set (i := 15) sc_law.nd rfl (by first | exact Or.inl rfl | exact Or.inr rfl) (pe_mak c_Stuck (hr.mono (by decide)) (by rfl) (pa_cons (pv 13) (pa_cons (pv 14) pa_nil)))) (pss_cons (ps_if (pt_cmpR (xo_neD p.K hr.units) (pe_tup (pa_cons (xe_fld p.K (pv 15)) (pa_cons (xe_fld p.K (pv 15)) pa_nil))) (pe_tup (pa_cons (pv 13) (pa_cons (pv 14) pa_nil))) (nomark _)) (pss_one (ps_ret pe_bl)) pss_nil) (pss_cons (ps_if (pt_not (pt_val (pe_cal c__law_says (hr.mono (by decide)) (by rfl) (pa_cons (pe_mts c_m_shows_3 (hr.mono (by decide)) (pv 15) (pa_cons (pv 3) (pa_cons (pv 5) (pa_cons (pv 6) pa_nil)))) (pa_cons (pe_cal c__law_is_stuck (hr.mono (by decide)) (by rfl) (pa_cons (pv 3) (pa_cons (pv 6) (pa_cons (pv 13) (pa_cons (pv 14) pa_nil))))) pa_nil))))) (pss_one (ps_ret pe_bl)) pss_nil) pss_nil)))) pss_nil))))))))) (pss_cons (ps_if (pt_cmpR op_notBl (pe_mts c_m_shows_3 (hr.mono (by decide)) (pe_mak c_Least (hr.mono (by decide)) (by rfl) (pa_cons (pe_lst (pa_cons pe_int (pa_cons pe_int pa_nil))) (pa_cons (pe_lst (pa_cons (pe_tup (pa_cons (pe_lst (pa_cons pe_int (pa_cons pe_int pa_nil))) (pa_cons pe_int pa_nil))) (pa_cons (pe_tup (pa_cons (pe_lst (pa_cons pe_int (pa_cons pe_int pa_nil))) (pa_cons pe_int pa_nil))) pa_nil))) pa_nil))) (pa_cons (pe_lst (pa_cons pe_int (pa_cons pe_int (pa_cons pe_int pa_nil)))) (pa_cons (pe_lst (pa_cons pe_int (pa_cons pe_int (pa_cons pe_int pa_nil)))) (pa_cons (pe_lst pa_nil) pa_nil)))) pe_bl (nomark _)) (pss_one (ps_ret pe_bl)) pss_nil) (pss_cons (ps_if (pt_cmpR op_notBl (pe_mts c_m_shows_3 (hr.mono (by decide)) (pe_mak c_Least (hr.mono (by decide)) (by rfl) (pa_cons (pe_lst (pa_cons pe_int pa_nil)) (pa_cons (pe_lst (pa_cons (pe_tup (pa_cons (pe_lst (pa_cons pe_int (pa_cons pe_int pa_nil))) (pa_cons pe_int pa_nil))) (pa_cons (pe_tup (pa_cons (pe_lst (pa_cons pe_int (pa_cons pe_int pa_nil))) (pa_cons pe_int pa_nil))) pa_nil))) pa_nil))) (pa_cons (pe_lst (pa_cons pe_int (pa_cons pe_int (pa_cons pe_int pa_nil)))) (pa_cons (pe_lst (pa_cons pe_int (pa_cons pe_int (pa_cons pe_int pa_nil)))) (pa_cons (pe_lst pa_nil) pa_nil)))) pe_bl (nomark _)) (pss_one (ps_ret pe_bl)) pss_nil) (pss_cons (ps_if (pt_cmpR op_notBl (pe_mts c_m_shows_3 (hr.mono (by decide)) (pe_mak c_Stuck (hr.mono (by decide)) (by rfl) (pa_cons pe_int (pa_cons pe_int pa_nil))) (pa_cons (pe_lst (pa_cons pe_int (pa_cons pe_int pa_nil))) (pa_cons (pe_lst (pa_cons pe_int (pa_cons pe_int pa_nil))) (pa_cons (pe_lst (pa_cons pe_int (pa_cons pe_int pa_nil))) pa_nil)))) pe_bl (nomark _)) (pss_one (ps_ret pe_bl)) pss_nil) (pss_one (ps_ret (pe_cmpR op_isBl (pe_mts c_m_shows_3 (hr.mono (by decide)) (pe_mak c_Least (hr.mono (by decide)) (by rfl) (pa_cons (pe_lst (pa_cons pe_int pa_nil)) (pa_cons (pe_lst (pa_cons (pe_tup (pa_cons (pe_lst (pa_cons pe_int pa_nil)) (pa_cons pe_int pa_nil))) pa_nil)) pa_nil))) (pa_cons (pe_lst (pa_cons pe_int (pa_cons pe_int (pa_cons pe_int pa_nil)))) (pa_cons (pe_lst (pa_cons pe_int (pa_cons pe_int (pa_cons pe_int pa_nil)))) (pa_cons (pe_lst (pa_cons pe_int pa_nil)) pa_nil)))) pe_bl (nomark _)))))))))
  intro v_script
  show Bk p _ [.va (enc (v_script : Scr)), .fr, .fr, .fr, .fr, .fr, .fr, .fr, .fr, .fr, .fr, .fr, .fr, .fr, .fr, .fr] (law v_script) _
  unfold law
  exact (k_asg (ev_sum ((ev_scrCut (ev_var rfl) ev_int)).weak) (fun v_whole_4 => (k_seqR (k_forB (envS := fun (s5 : Unit) => [.va (enc (v_script : Scr)), .va (enc (v_whole_4 : Int)), .fr, .fr, .fr, .fr, .fr, .fr, .fr, .fr, .fr, .fr, .fr, .fr, .fr, .fr]) (ei_range1 ev_int) (le_r (le_r (le_f (le_f (le_f (le_f (le_f (le_f (le_f (le_f (le_f (le_f (le_f (le_f (le_f (le_f le_nil)))))))))))))))) (fun _ _ => tg_name) (fun s5 a7 => (k_asg ((ev_call3 (ev_var rfl) (ev_var rfl) (ev_if (et_test (ev_eqS (ev_fmod (ev_var rfl) ev_int) (ev_var rfl))) ev_int ev_int))).weak (fun v_order_here_18 => (k_asg (ev_len (ev_var rfl)) (fun v_many_20 => (k_par ((ev_call3 (ev_var rfl) (ev_var rfl) (ev_var rfl))).weak ((ev_call3 (ev_var rfl) (ev_var rfl) (ev_var rfl))).weak (fun v_weights_here_27 v_nailed_here_28 => (k_asg ((en_call3 (ev_var rfl) (ev_var rfl) (ev_var rfl))).ev (fun v_found_32 => (k_unp (ev_if (et_B (ev_isiO (ev_var rfl) (isi_1 C_))) (ev_tup2 ((ev_lst es_nil)).weak ((ev_lst es_nil)).weak) (ev_tup2 ((ev_list (ev_stayL (ev_var rfl) C_.cls_0.cls C_.na_0_stay))).weak ((ev_list (ev_rows (ev_var rfl) C_.cls_0.cls C_.na_0_rows))).weak)) (fun _ => (tg_tup (tgs_cons tg_name (tgs_cons tg_name tgs_nil)))) (fun z49 => (k_seqB (k_forB (envS := fun (s50 : Unit) => [.va (enc (v_script : Scr)), .va (enc (v_whole_4 : Int)), .va (enc (a7 : Int)), .va (enc (v_order_here_18 : List (Int))), .va (enc (v_many_20 : Int)), .va (enc (v_weights_here_27 : List (Int))), .va (enc (v_nailed_here_28 : List (Int))), .va (enc (v_found_32 : Ans)), .va (enc (z49.1 : List (Int))), .va (enc (z49.2 : List ((List (Int)) × (Int)))), .fr, .fr, .fr, .fr, .fr, .fr]) (ei_list (ev_call4 (ev_var rfl) (ev_var rfl) (ev_fdiv (ev_var rfl) ev_int) (ev_var rfl))) (le_r (le_r (le_r (le_r (le_r (le_r (le_r (le_r (le_r (le_r (le_f (le_f (le_f (le_f (le_f (le_f le_nil)))))))))))))))) (fun _ _ => (tg_tup (tgs_cons tg_name (tgs_cons tg_name tgs_nil)))) (fun s50 a57 => (k_ifB (et_not (et_B (ev_call5 (ev_var rfl) (ev_var rfl) (ev_var rfl) (ev_var rfl) (ev_var rfl)))) (k_ret ev_bl) (k_endB (le_r (le_r (le_r (le_r (le_r (le_r (le_r (le_r (le_r (le_r (le_f (le_f (le_f (le_f (le_f (le_f le_nil)))))))))))))))))))) (fun s50 => (k_asg ((ev_cat ((ev_listZip (ev_var rfl) ((ev_slice (ev_var rfl) (eo_some ev_int) eo_none)).weak)).weak ((ev_lst (es_cons (ev_tup2 ev_int (ev_sub (ev_var rfl) ev_int)) (es_cons (ev_tup2 (ev_sub (ev_var rfl) ev_int) ev_int) (es_cons (ev_tup2 (ev_neg ev_int) (ev_pow ev_int ev_int)) es_nil))))).weak)).weak (fun v_pairs_100 => (k_seqB (k_forB (envS := fun (s101 : Unit) => [.va (enc (v_script : Scr)), .va (enc (v_whole_4 : Int)), .va (enc (a7 : Int)), .va (enc (v_order_here_18 : List (Int))), .va (enc (v_many_20 : Int)), .va (enc (v_weights_here_27 : List (Int))), .va (enc (v_nailed_here_28 : List (Int))), .va (enc (v_found_32 : Ans)), .va (enc (z49.1 : List (Int))), .va (enc (z49.2 : List ((List (Int)) × (Int)))), .fr, .fr, .va (enc (v_pairs_100 : List ((Int) × (Int)))), .fr, .fr, .fr]) (ei_list ((ev_cat (ev_var rfl) ((ev_lst (es_cons (ev_tup2 (ev_fmod (ev_var rfl) (ev_var rfl)) (ev_fmod (ev_fdiv (ev_var rfl) ev_int) (ev_var rfl))) (es_cons (ev_tup2 ev_int ev_int) es_nil)))).weak)).weak) (le_r (le_r (le_r (le_r (le_r (le_r (le_r (le_r (le_r (le_r (le_f (le_f (le_r (le_f (le_f (le_f le_nil)))))))))))))))) (fun _ _ => (tg_tup (tgs_cons tg_name (tgs_cons tg_name tgs_nil)))) (fun s101 a118 => (k_asg ((en_make2 (ev_var rfl) (ev_var rfl))).ev (fun v_built_121 => (k_ifB (et_test (ev_neD (ev_tup2 (ev_one (ev_var rfl) C_.cls_1.cls C_.na_1_one) (ev_other (ev_var rfl) C_.cls_1.cls C_.na_1_other)) (ev_tup2 (ev_var rfl) (ev_var rfl)))) (k_ret ev_bl) (k_ifB (et_not (et_B (ev_call2 (ev_meth3 (ev_var rfl) (ev_var rfl) (ev_var rfl) (ev_var rfl) ans_shows) (ev_call4 (ev_var rfl) (ev_var rfl) (ev_var rfl) (ev_var rfl))))) (k_ret ev_bl) (k_endB (le_r (le_r (le_r (le_r (le_r (le_r (le_r (le_r (le_r (le_r (le_f (le_f (le_r (le_f (le_f (le_f le_nil))))))))))))))))))))))) (fun s101 => (k_endB (le_r (le_r (le_f (le_f (le_f (le_f (le_f (le_f (le_f (le_f (le_f (le_f (le_f (le_f (le_f (le_f le_nil))))))))))))))))))))))))))))))))))) (fun s5 => (k_ifR (et_test (ev_isNT true (ev_meth3 ((en_make2 ((ev_lst (es_cons ev_int (es_cons ev_int es_nil)))).weak ((ev_lst (es_cons (ev_tup2 ((ev_lst (es_cons ev_int (es_cons ev_int es_nil)))).weak ev_int) (es_cons (ev_tup2 ((ev_lst (es_cons ev_int (es_cons ev_int es_nil)))).weak ev_int) es_nil)))).weak)).ev ((ev_lst (es_cons ev_int (es_cons ev_int (es_cons ev_int es_nil))))).weak ((ev_lst (es_cons ev_int (es_cons ev_int (es_cons ev_int es_nil))))).weak ((ev_lst es_nil)).weak ans_shows))) (k_ret ev_bl) (k_ifR (et_test (ev_isNT false (ev_meth3 ((en_make2 ((ev_lst (es_cons ev_int es_nil))).weak ((ev_lst (es_cons (ev_tup2 ((ev_lst (es_cons ev_int (es_cons ev_int es_nil)))).weak ev_int) (es_cons (ev_tup2 ((ev_lst (es_cons ev_int (es_cons ev_int es_nil)))).weak ev_int) es_nil)))).weak)).ev ((ev_lst (es_cons ev_int (es_cons ev_int (es_cons ev_int es_nil))))).weak ((ev_lst (es_cons ev_int (es_cons ev_int (es_cons ev_int es_nil))))).weak ((ev_lst es_nil)).weak ans_shows))) (k_ret ev_bl) (k_ifR (et_test (ev_isNT true (ev_meth3 ((en_make2 ev_int ev_int)).ev ((ev_lst (es_cons ev_int (es_cons ev_int es_nil)))).weak ((ev_lst (es_cons ev_int (es_cons ev_int es_nil)))).weak ((ev_lst (es_cons ev_int (es_cons ev_int es_nil)))).weak ans_shows))) (k_ret ev_bl) (k_ret (ev_isT true (ev_meth3 ((en_make2 ((ev_lst (es_cons ev_int es_nil))).weak ((ev_lst (es_cons (ev_tup2 ((ev_lst (es_cons ev_int es_nil))).weak ev_int) es_nil))).weak)).ev ((ev_lst (es_cons ev_int (es_cons ev_int (es_cons ev_int es_nil))))).weak ((ev_lst (es_cons ev_int (es_cons ev_int (es_cons ev_int es_nil))))).weak ((ev_lst (es_cons ev_int es_nil))).weak ans_shows))))))))))
theorem cal_law (T : Blt mg) (C_ : Csts p mg) (c_Least : Mak P w p.K mg base "Least" (p.cl 0) 1 ["self", "stay", "rows"] (spI2 p 0 mk_Least)) (c_Stuck : Mak P w p.K mg base "Stuck" (p.cl 1) 1 ["self", "one", "other"] (spI2 p 1 mk_Stuck)) (c__law_is_stuck : Cal P w p.K mg base "_law_is_stuck" 1 ["_law_order_here", "_law_nailed_here", "_law_one", "_law_other"] (sp4 p false _law_is_stuck)) (c__law_lots : Cal P w p.K mg base "_law_lots" 2 ["_law_stay", "_law_rows", "_law_whole", "_law_many"] (sp4 p false _law_lots)) (c__law_nailed : Cal P w p.K mg base "_law_nailed" 2 ["_law_script", "_law_by", "_law_many"] (sp3 p true _law_nailed)) (c__law_order : Cal P w p.K mg base "_law_order" 2 ["_law_script", "_law_by", "_law_most"] (sp3 p true _law_order)) (c__law_right : Cal P w p.K mg base "_law_right" 4 ["_law_order_here", "_law_weights_here", "_law_nailed_here", "_law_stay", "_law_rows"] (sp5 p false _law_right)) (c__law_says : Cal P w p.K mg base "_law_says" 1 ["_law_said", "_law_due"] (sp2 p false _law_says)) (c__law_weights : Cal P w p.K mg base "_law_weights" 2 ["_law_script", "_law_by", "_law_many"] (sp3 p true _law_weights)) (c_least : Cal P w p.K mg base "least" 6 ["order", "weights", "nailed"] (spD3 p least)) (c_m_shows_3 : Mts P w p.K mg base "shows" 3 (mS3 p false [0, 1] L_ms_shows_3)) (D_ : Df p.K mg "law" s_law) : Cal P w p.K mg base "law" 7 ["_law_script"] (sp1 p false law) := by
  obtain ⟨fa, fd, F, hm⟩ := D_.ex
  exact ⟨fa, fd, ok_law T C_ c_Least c_Stuck c__law_is_stuck c__law_lots c__law_nailed c__law_order c__law_right c__law_says c__law_weights c_least c_m_shows_3 F, hm, F.kp, F.binds fun _ _ _ _ _ _ us hl => match us, hl with | [_], _ => rfl⟩
end
end Fw

set_option Elab.async false
set_option maxRecDepth 100000
set_option maxHeartbeats 4000000
set_option linter.all false
namespace Fw
open PySem L2 PU
open PU.Enc
/-! ## the end -/
def spLaw (K : PySem.W.Frag) : Sp := fun vs H Q _ => ∃ (a : Addr) (ns : List Int), vs = [.ref a] ∧ SqL K H a (ns.map V.int) ∧ ns.length ≤ 63 ∧ ∀ H', Q (.bl true) H'
theorem all_mk {l : PySem.W.OpenLaw} {w : World} {K : PySem.W.Frag} {h : Heap} {mg : Str → Option Value} {fa C0 C1 f_heights f_staying f_paper f_stand_right f_free_ones f_clash f_weight_of f_are_in f_is_staying f_is_whole f_is_between f_are_books f_check_weights f_check_all f_check_nailed f_check_three f__law_number f__law_order f__law_weights f__law_nailed f__law_right_two f__law_free f_bears f_Least f_Stuck f_least f_Least_shows f_Stuck_shows f__law_says f__law_stand f__law_bears f__law_is_least f__law_is_stuck f__law_right f__law_bent f__law_lots f_law : Addr} (X : K.In h) (G : h.Ns mainGlobals mg) (hfa : mg "law" = some (.ref fa))
    {t_MOST_WEIGHT : Tok}
    {t_MOST_BOOKS : Tok}
    {od_heights an_heights : Option Addr} {sl_heights : Array (Option Value)} {oc_heights kV_heights dc_heights pm_heights cd_heights ct_heights : Value}
    {od_staying an_staying : Option Addr} {sl_staying : Array (Option Value)} {oc_staying kV_staying dc_staying pm_staying cd_staying ct_staying : Value}
    {od_paper an_paper : Option Addr} {sl_paper : Array (Option Value)} {oc_paper kV_paper dc_paper pm_paper cd_paper ct_paper : Value}
    {od_stand_right an_stand_right : Option Addr} {sl_stand_right : Array (Option Value)} {oc_stand_right kV_stand_right dc_stand_right pm_stand_right cd_stand_right ct_stand_right : Value}
    {od_free_ones an_free_ones : Option Addr} {sl_free_ones : Array (Option Value)} {oc_free_ones kV_free_ones dc_free_ones pm_free_ones cd_free_ones ct_free_ones : Value}
    {od_clash an_clash : Option Addr} {sl_clash : Array (Option Value)} {oc_clash kV_clash dc_clash pm_clash cd_clash ct_clash : Value}
    {od_weight_of an_weight_of : Option Addr} {sl_weight_of : Array (Option Value)} {oc_weight_of kV_weight_of dc_weight_of pm_weight_of cd_weight_of ct_weight_of : Value}
    {od_are_in an_are_in : Option Addr} {sl_are_in : Array (Option Value)} {oc_are_in kV_are_in dc_are_in pm_are_in cd_are_in ct_are_in : Value}
    {od_is_staying an_is_staying : Option Addr} {sl_is_staying : Array (Option Value)} {oc_is_staying kV_is_staying dc_is_staying pm_is_staying cd_is_staying ct_is_staying : Value}
    {od_is_whole an_is_whole : Option Addr} {sl_is_whole : Array (Option Value)} {oc_is_whole kV_is_whole dc_is_whole pm_is_whole cd_is_whole ct_is_whole : Value}
    {od_is_between an_is_between : Option Addr} {sl_is_between : Array (Option Value)} {oc_is_between kV_is_between dc_is_between pm_is_between cd_is_between ct_is_between : Value}
    {od_are_books an_are_books : Option Addr} {sl_are_books : Array (Option Value)} {oc_are_books kV_are_books dc_are_books pm_are_books cd_are_books ct_are_books : Value}
    {od_check_weights an_check_weights : Option Addr} {sl_check_weights : Array (Option Value)} {oc_check_weights kV_check_weights dc_check_weights pm_check_weights cd_check_weights ct_check_weights : Value}
    {od_check_all an_check_all : Option Addr} {sl_check_all : Array (Option Value)} {oc_check_all kV_check_all dc_check_all pm_check_all cd_check_all ct_check_all : Value}
    {od_check_nailed an_check_nailed : Option Addr} {sl_check_nailed : Array (Option Value)} {oc_check_nailed kV_check_nailed dc_check_nailed pm_check_nailed cd_check_nailed ct_check_nailed : Value}
    {od_check_three an_check_three : Option Addr} {sl_check_three : Array (Option Value)} {oc_check_three kV_check_three dc_check_three pm_check_three cd_check_three ct_check_three : Value}
    {od__law_number an__law_number : Option Addr} {sl__law_number : Array (Option Value)} {oc__law_number kV__law_number dc__law_number pm__law_number cd__law_number ct__law_number : Value}
    {od__law_order an__law_order : Option Addr} {sl__law_order : Array (Option Value)} {oc__law_order kV__law_order dc__law_order pm__law_order cd__law_order ct__law_order : Value}
    {od__law_weights an__law_weights : Option Addr} {sl__law_weights : Array (Option Value)} {oc__law_weights kV__law_weights dc__law_weights pm__law_weights cd__law_weights ct__law_weights : Value}
    {od__law_nailed an__law_nailed : Option Addr} {sl__law_nailed : Array (Option Value)} {oc__law_nailed kV__law_nailed dc__law_nailed pm__law_nailed cd__law_nailed ct__law_nailed : Value}
    {od__law_right_two an__law_right_two : Option Addr} {sl__law_right_two : Array (Option Value)} {oc__law_right_two kV__law_right_two dc__law_right_two pm__law_right_two cd__law_right_two ct__law_right_two : Value}
    {od__law_free an__law_free : Option Addr} {sl__law_free : Array (Option Value)} {oc__law_free kV__law_free dc__law_free pm__law_free cd__law_free ct__law_free : Value}
    {od_bears an_bears : Option Addr} {sl_bears : Array (Option Value)} {oc_bears kV_bears dc_bears pm_bears cd_bears ct_bears : Value}
    {od_Least an_Least : Option Addr} {sl_Least : Array (Option Value)} {oc_Least kV_Least dc_Least pm_Least cd_Least ct_Least : Value}
    {od_Stuck an_Stuck : Option Addr} {sl_Stuck : Array (Option Value)} {oc_Stuck kV_Stuck dc_Stuck pm_Stuck cd_Stuck ct_Stuck : Value}
    {od_least an_least : Option Addr} {sl_least : Array (Option Value)} {oc_least kV_least dc_least pm_least cd_least ct_least : Value}
    {od_Least_shows an_Least_shows : Option Addr} {sl_Least_shows : Array (Option Value)} {oc_Least_shows kV_Least_shows dc_Least_shows pm_Least_shows cd_Least_shows ct_Least_shows : Value}
    {od_Stuck_shows an_Stuck_shows : Option Addr} {sl_Stuck_shows : Array (Option Value)} {oc_Stuck_shows kV_Stuck_shows dc_Stuck_shows pm_Stuck_shows cd_Stuck_shows ct_Stuck_shows : Value}
    {od__law_says an__law_says : Option Addr} {sl__law_says : Array (Option Value)} {oc__law_says kV__law_says dc__law_says pm__law_says cd__law_says ct__law_says : Value}
    {od__law_stand an__law_stand : Option Addr} {sl__law_stand : Array (Option Value)} {oc__law_stand kV__law_stand dc__law_stand pm__law_stand cd__law_stand ct__law_stand : Value}
    {od__law_bears an__law_bears : Option Addr} {sl__law_bears : Array (Option Value)} {oc__law_bears kV__law_bears dc__law_bears pm__law_bears cd__law_bears ct__law_bears : Value}
    {od__law_is_least an__law_is_least : Option Addr} {sl__law_is_least : Array (Option Value)} {oc__law_is_least kV__law_is_least dc__law_is_least pm__law_is_least cd__law_is_least ct__law_is_least : Value}
    {od__law_is_stuck an__law_is_stuck : Option Addr} {sl__law_is_stuck : Array (Option Value)} {oc__law_is_stuck kV__law_is_stuck dc__law_is_stuck pm__law_is_stuck cd__law_is_stuck ct__law_is_stuck : Value}
    {od__law_right an__law_right : Option Addr} {sl__law_right : Array (Option Value)} {oc__law_right kV__law_right dc__law_right pm__law_right cd__law_right ct__law_right : Value}
    {od__law_bent an__law_bent : Option Addr} {sl__law_bent : Array (Option Value)} {oc__law_bent kV__law_bent dc__law_bent pm__law_bent cd__law_bent ct__law_bent : Value}
    {od__law_lots an__law_lots : Option Addr} {sl__law_lots : Array (Option Value)} {oc__law_lots kV__law_lots dc__law_lots pm__law_lots cd__law_lots ct__law_lots : Value}
    {od_law an_law : Option Addr} {sl_law : Array (Option Value)} {oc_law kV_law dc_law pm_law cd_law ct_law : Value}
    (z_len : PySem.W.nsIn K mainGlobals "len" = some none)
    (z_sum : PySem.W.nsIn K mainGlobals "sum" = some none)
    (z_max : PySem.W.nsIn K mainGlobals "max" = some none)
    (z_min : PySem.W.nsIn K mainGlobals "min" = some none)
    (z_all : PySem.W.nsIn K mainGlobals "all" = some none)
    (z_any : PySem.W.nsIn K mainGlobals "any" = some none)
    (z_sorted : PySem.W.nsIn K mainGlobals "sorted" = some none)
    (z_list : PySem.W.nsIn K mainGlobals "list" = some none)
    (z_range : PySem.W.nsIn K mainGlobals "range" = some none)
    (z_enumerate : PySem.W.nsIn K mainGlobals "enumerate" = some none)
    (z_zip : PySem.W.nsIn K mainGlobals "zip" = some none)
    (z_isinstance : PySem.W.nsIn K mainGlobals "isinstance" = some none)
    (z_int : PySem.W.nsIn K mainGlobals "int" = some none)
    (z_bool : PySem.W.nsIn K mainGlobals "bool" = some none)
    (z_abs : PySem.W.nsIn K mainGlobals "abs" = some none)
    (z_set : PySem.W.nsIn K mainGlobals "set" = some none)
    (z_tuple : PySem.W.nsIn K mainGlobals "tuple" = some none)
    (ac_0 : PySem.W.nsIn K mainGlobals "Least" = some (some (.ref C0)))
    (pg_0 : PySem.W.plainGet K C0 Str.empty = true)
    (hd_0 : PySem.W.hasDictIn K C0 = true)
    (po_0 : PySem.W.plainOver K C0 = true)
    (sa_0 : PySem.W.findIn K (.ref C0) "__setattr__" = some (some (.builtin "object.__setattr__")))
    (ha_0 : PySem.W.findIn K (.ref C0) "__class__" = some (some (.builtin "object.__class__")))
    (mo_0 : PySem.W.mroIn K C0 (.type "object") = some true)
    (mk_0 : PySem.W.makesIn K C0 = true)
    (kc_0 : PySem.W.keepIn K (.ref C0) = true)
    (ac_1 : PySem.W.nsIn K mainGlobals "Stuck" = some (some (.ref C1)))
    (pg_1 : PySem.W.plainGet K C1 Str.empty = true)
    (hd_1 : PySem.W.hasDictIn K C1 = true)
    (po_1 : PySem.W.plainOver K C1 = true)
    (sa_1 : PySem.W.findIn K (.ref C1) "__setattr__" = some (some (.builtin "object.__setattr__")))
    (ha_1 : PySem.W.findIn K (.ref C1) "__class__" = some (some (.builtin "object.__class__")))
    (mo_1 : PySem.W.mroIn K C1 (.type "object") = some true)
    (mk_1 : PySem.W.makesIn K C1 = true)
    (kc_1 : PySem.W.keepIn K (.ref C1) = true)
    (hn_ : PySem.W.specialIn K (.builtin "object.__class__") "__get__" = some (some (.builtin "getset_descriptor.__get__")))
    (tk_ : PySem.W.takesIn K (.builtin "object.__class__") = some true)
    (a_MOST_WEIGHT : PySem.W.nsIn K mainGlobals "MOST_WEIGHT" = some (some (.int 9 t_MOST_WEIGHT)))
    (a_MOST_BOOKS : PySem.W.nsIn K mainGlobals "MOST_BOOKS" = some (some (.int 24 t_MOST_BOOKS)))
    (na_0_rows : PySem.W.findIn K (.ref C0) "rows" = some none)
    (na_0_stay : PySem.W.findIn K (.ref C0) "stay" = some none)
    (na_1_other : PySem.W.findIn K (.ref C1) "other" = some none)
    (na_1_one : PySem.W.findIn K (.ref C1) "one" = some none)
    (ic_1 : PySem.W.isClsIn K C1 = true)
    (ty_1 : PySem.W.typeIn K (.ref C1) = some (.type "type"))
    (ne_0_1 : (Value.ref C0 == Value.ref C1) = false)
    (su_0_1 : PySem.W.subIn K (.ref C0) (.ref C1) = some false)
    (a_heights : PySem.W.nsIn K mainGlobals "heights" = some (some (.ref f_heights)))
    (l_heights : K.lookup f_heights = some ⟨oc_heights, od_heights, .func (PySem.W.fnOf "heights" "heights" (defArgs s_heights) (defBody s_heights) (defScope s_heights) .none kV_heights dc_heights pm_heights an_heights cd_heights ct_heights), sl_heights⟩)
    (c_heights : PySem.W.codeIn K cd_heights "heights" = true)
    (k_heights : PySem.W.keepIn K (.ref f_heights) = true)
    (a_staying : PySem.W.nsIn K mainGlobals "staying" = some (some (.ref f_staying)))
    (l_staying : K.lookup f_staying = some ⟨oc_staying, od_staying, .func (PySem.W.fnOf "staying" "staying" (defArgs s_staying) (defBody s_staying) (defScope s_staying) .none kV_staying dc_staying pm_staying an_staying cd_staying ct_staying), sl_staying⟩)
    (c_staying : PySem.W.codeIn K cd_staying "staying" = true)
    (k_staying : PySem.W.keepIn K (.ref f_staying) = true)
    (a_paper : PySem.W.nsIn K mainGlobals "paper" = some (some (.ref f_paper)))
    (l_paper : K.lookup f_paper = some ⟨oc_paper, od_paper, .func (PySem.W.fnOf "paper" "paper" (defArgs s_paper) (defBody s_paper) (defScope s_paper) .none kV_paper dc_paper pm_paper an_paper cd_paper ct_paper), sl_paper⟩)
    (c_paper : PySem.W.codeIn K cd_paper "paper" = true)
    (k_paper : PySem.W.keepIn K (.ref f_paper) = true)
    (a_stand_right : PySem.W.nsIn K mainGlobals "stand_right" = some (some (.ref f_stand_right)))
    (l_stand_right : K.lookup f_stand_right = some ⟨oc_stand_right, od_stand_right, .func (PySem.W.fnOf "stand_right" "stand_right" (defArgs s_stand_right) (defBody s_stand_right) (defScope s_stand_right) .none kV_stand_right dc_stand_right pm_stand_right an_stand_right cd_stand_right ct_stand_right), sl_stand_right⟩)
    (c_stand_right : PySem.W.codeIn K cd_stand_right "stand_right" = true)
    (k_stand_right : PySem.W.keepIn K (.ref f_stand_right) = true)
    (a_free_ones : PySem.W.nsIn K mainGlobals "free_ones" = some (some (.ref f_free_ones)))
    (l_free_ones : K.lookup f_free_ones = some ⟨oc_free_ones, od_free_ones, .func (PySem.W.fnOf "free_ones" "free_ones" (defArgs s_free_ones) (defBody s_free_ones) (defScope s_free_ones) .none kV_free_ones dc_free_ones pm_free_ones an_free_ones cd_free_ones ct_free_ones), sl_free_ones⟩)
    (c_free_ones : PySem.W.codeIn K cd_free_ones "free_ones" = true)
    (k_free_ones : PySem.W.keepIn K (.ref f_free_ones) = true)
    (a_clash : PySem.W.nsIn K mainGlobals "clash" = some (some (.ref f_clash)))
    (l_clash : K.lookup f_clash = some ⟨oc_clash, od_clash, .func (PySem.W.fnOf "clash" "clash" (defArgs s_clash) (defBody s_clash) (defScope s_clash) .none kV_clash dc_clash pm_clash an_clash cd_clash ct_clash), sl_clash⟩)
    (c_clash : PySem.W.codeIn K cd_clash "clash" = true)
    (k_clash : PySem.W.keepIn K (.ref f_clash) = true)
    (a_weight_of : PySem.W.nsIn K mainGlobals "weight_of" = some (some (.ref f_weight_of)))
    (l_weight_of : K.lookup f_weight_of = some ⟨oc_weight_of, od_weight_of, .func (PySem.W.fnOf "weight_of" "weight_of" (defArgs s_weight_of) (defBody s_weight_of) (defScope s_weight_of) .none kV_weight_of dc_weight_of pm_weight_of an_weight_of cd_weight_of ct_weight_of), sl_weight_of⟩)
    (c_weight_of : PySem.W.codeIn K cd_weight_of "weight_of" = true)
    (k_weight_of : PySem.W.keepIn K (.ref f_weight_of) = true)
    (a_are_in : PySem.W.nsIn K mainGlobals "are_in" = some (some (.ref f_are_in)))
    (l_are_in : K.lookup f_are_in = some ⟨oc_are_in, od_are_in, .func (PySem.W.fnOf "are_in" "are_in" (defArgs s_are_in) (defBody s_are_in) (defScope s_are_in) .none kV_are_in dc_are_in pm_are_in an_are_in cd_are_in ct_are_in), sl_are_in⟩)
    (c_are_in : PySem.W.codeIn K cd_are_in "are_in" = true)
    (k_are_in : PySem.W.keepIn K (.ref f_are_in) = true)
    (a_is_staying : PySem.W.nsIn K mainGlobals "is_staying" = some (some (.ref f_is_staying)))
    (l_is_staying : K.lookup f_is_staying = some ⟨oc_is_staying, od_is_staying, .func (PySem.W.fnOf "is_staying" "is_staying" (defArgs s_is_staying) (defBody s_is_staying) (defScope s_is_staying) .none kV_is_staying dc_is_staying pm_is_staying an_is_staying cd_is_staying ct_is_staying), sl_is_staying⟩)
    (c_is_staying : PySem.W.codeIn K cd_is_staying "is_staying" = true)
    (k_is_staying : PySem.W.keepIn K (.ref f_is_staying) = true)
    (a_is_whole : PySem.W.nsIn K mainGlobals "is_whole" = some (some (.ref f_is_whole)))
    (l_is_whole : K.lookup f_is_whole = some ⟨oc_is_whole, od_is_whole, .func (PySem.W.fnOf "is_whole" "is_whole" (defArgs s_is_whole) (defBody s_is_whole) (defScope s_is_whole) .none kV_is_whole dc_is_whole pm_is_whole an_is_whole cd_is_whole ct_is_whole), sl_is_whole⟩)
    (c_is_whole : PySem.W.codeIn K cd_is_whole "is_whole" = true)
    (k_is_whole : PySem.W.keepIn K (.ref f_is_whole) = true)
    (a_is_between : PySem.W.nsIn K mainGlobals "is_between" = some (some (.ref f_is_between)))
    (l_is_between : K.lookup f_is_between = some ⟨oc_is_between, od_is_between, .func (PySem.W.fnOf "is_between" "is_between" (defArgs s_is_between) (defBody s_is_between) (defScope s_is_between) .none kV_is_between dc_is_between pm_is_between an_is_between cd_is_between ct_is_between), sl_is_between⟩)
    (c_is_between : PySem.W.codeIn K cd_is_between "is_between" = true)
    (k_is_between : PySem.W.keepIn K (.ref f_is_between) = true)
    (a_are_books : PySem.W.nsIn K mainGlobals "are_books" = some (some (.ref f_are_books)))
    (l_are_books : K.lookup f_are_books = some ⟨oc_are_books, od_are_books, .func (PySem.W.fnOf "are_books" "are_books" (defArgs s_are_books) (defBody s_are_books) (defScope s_are_books) .none kV_are_books dc_are_books pm_are_books an_are_books cd_are_books ct_are_books), sl_are_books⟩)
    (c_are_books : PySem.W.codeIn K cd_are_books "are_books" = true)
    (k_are_books : PySem.W.keepIn K (.ref f_are_books) = true)
    (a_check_weights : PySem.W.nsIn K mainGlobals "check_weights" = some (some (.ref f_check_weights)))
    (l_check_weights : K.lookup f_check_weights = some ⟨oc_check_weights, od_check_weights, .func (PySem.W.fnOf "check_weights" "check_weights" (defArgs s_check_weights) (defBody s_check_weights) (defScope s_check_weights) .none kV_check_weights dc_check_weights pm_check_weights an_check_weights cd_check_weights ct_check_weights), sl_check_weights⟩)
    (c_check_weights : PySem.W.codeIn K cd_check_weights "check_weights" = true)
    (k_check_weights : PySem.W.keepIn K (.ref f_check_weights) = true)
    (a_check_all : PySem.W.nsIn K mainGlobals "check_all" = some (some (.ref f_check_all)))
    (l_check_all : K.lookup f_check_all = some ⟨oc_check_all, od_check_all, .func (PySem.W.fnOf "check_all" "check_all" (defArgs s_check_all) (defBody s_check_all) (defScope s_check_all) .none kV_check_all dc_check_all pm_check_all an_check_all cd_check_all ct_check_all), sl_check_all⟩)
    (c_check_all : PySem.W.codeIn K cd_check_all "check_all" = true)
    (k_check_all : PySem.W.keepIn K (.ref f_check_all) = true)
    (a_check_nailed : PySem.W.nsIn K mainGlobals "check_nailed" = some (some (.ref f_check_nailed)))
    (l_check_nailed : K.lookup f_check_nailed = some ⟨oc_check_nailed, od_check_nailed, .func (PySem.W.fnOf "check_nailed" "check_nailed" (defArgs s_check_nailed) (defBody s_check_nailed) (defScope s_check_nailed) .none kV_check_nailed dc_check_nailed pm_check_nailed an_check_nailed cd_check_nailed ct_check_nailed), sl_check_nailed⟩)
    (c_check_nailed : PySem.W.codeIn K cd_check_nailed "check_nailed" = true)
    (k_check_nailed : PySem.W.keepIn K (.ref f_check_nailed) = true)
    (a_check_three : PySem.W.nsIn K mainGlobals "check_three" = some (some (.ref f_check_three)))
    (l_check_three : K.lookup f_check_three = some ⟨oc_check_three, od_check_three, .func (PySem.W.fnOf "check_three" "check_three" (defArgs s_check_three) (defBody s_check_three) (defScope s_check_three) .none kV_check_three dc_check_three pm_check_three an_check_three cd_check_three ct_check_three), sl_check_three⟩)
    (c_check_three : PySem.W.codeIn K cd_check_three "check_three" = true)
    (k_check_three : PySem.W.keepIn K (.ref f_check_three) = true)
    (a__law_number : PySem.W.nsIn K mainGlobals "_law_number" = some (some (.ref f__law_number)))
    (l__law_number : K.lookup f__law_number = some ⟨oc__law_number, od__law_number, .func (PySem.W.fnOf "_law_number" "_law_number" (defArgs s__law_number) (defBody s__law_number) (defScope s__law_number) .none kV__law_number dc__law_number pm__law_number an__law_number cd__law_number ct__law_number), sl__law_number⟩)
    (c__law_number : PySem.W.codeIn K cd__law_number "_law_number" = true)
    (k__law_number : PySem.W.keepIn K (.ref f__law_number) = true)
    (a__law_order : PySem.W.nsIn K mainGlobals "_law_order" = some (some (.ref f__law_order)))
    (l__law_order : K.lookup f__law_order = some ⟨oc__law_order, od__law_order, .func (PySem.W.fnOf "_law_order" "_law_order" (defArgs s__law_order) (defBody s__law_order) (defScope s__law_order) .none kV__law_order dc__law_order pm__law_order an__law_order cd__law_order ct__law_order), sl__law_order⟩)
    (c__law_order : PySem.W.codeIn K cd__law_order "_law_order" = true)
    (k__law_order : PySem.W.keepIn K (.ref f__law_order) = true)
    (a__law_weights : PySem.W.nsIn K mainGlobals "_law_weights" = some (some (.ref f__law_weights)))
    (l__law_weights : K.lookup f__law_weights = some ⟨oc__law_weights, od__law_weights, .func (PySem.W.fnOf "_law_weights" "_law_weights" (defArgs s__law_weights) (defBody s__law_weights) (defScope s__law_weights) .none kV__law_weights dc__law_weights pm__law_weights an__law_weights cd__law_weights ct__law_weights), sl__law_weights⟩)
    (c__law_weights : PySem.W.codeIn K cd__law_weights "_law_weights" = true)
    (k__law_weights : PySem.W.keepIn K (.ref f__law_weights) = true)
    (a__law_nailed : PySem.W.nsIn K mainGlobals "_law_nailed" = some (some (.ref f__law_nailed)))
    (l__law_nailed : K.lookup f__law_nailed = some ⟨oc__law_nailed, od__law_nailed, .func (PySem.W.fnOf "_law_nailed" "_law_nailed" (defArgs s__law_nailed) (defBody s__law_nailed) (defScope s__law_nailed) .none kV__law_nailed dc__law_nailed pm__law_nailed an__law_nailed cd__law_nailed ct__law_nailed), sl__law_nailed⟩)
    (c__law_nailed : PySem.W.codeIn K cd__law_nailed "_law_nailed" = true)
    (k__law_nailed : PySem.W.keepIn K (.ref f__law_nailed) = true)
    (a__law_right_two : PySem.W.nsIn K mainGlobals "_law_right_two" = some (some (.ref f__law_right_two)))
    (l__law_right_two : K.lookup f__law_right_two = some ⟨oc__law_right_two, od__law_right_two, .func (PySem.W.fnOf "_law_right_two" "_law_right_two" (defArgs s__law_right_two) (defBody s__law_right_two) (defScope s__law_right_two) .none kV__law_right_two dc__law_right_two pm__law_right_two an__law_right_two cd__law_right_two ct__law_right_two), sl__law_right_two⟩)
    (c__law_right_two : PySem.W.codeIn K cd__law_right_two "_law_right_two" = true)
    (k__law_right_two : PySem.W.keepIn K (.ref f__law_right_two) = true)
    (a__law_free : PySem.W.nsIn K mainGlobals "_law_free" = some (some (.ref f__law_free)))
    (l__law_free : K.lookup f__law_free = some ⟨oc__law_free, od__law_free, .func (PySem.W.fnOf "_law_free" "_law_free" (defArgs s__law_free) (defBody s__law_free) (defScope s__law_free) .none kV__law_free dc__law_free pm__law_free an__law_free cd__law_free ct__law_free), sl__law_free⟩)
    (c__law_free : PySem.W.codeIn K cd__law_free "_law_free" = true)
    (k__law_free : PySem.W.keepIn K (.ref f__law_free) = true)
    (a_bears : PySem.W.nsIn K mainGlobals "bears" = some (some (.ref f_bears)))
    (l_bears : K.lookup f_bears = some ⟨oc_bears, od_bears, .func (PySem.W.fnOf "bears" "bears" (defArgs s_bears) (defBody s_bears) (defScope s_bears) .none kV_bears dc_bears pm_bears an_bears cd_bears ct_bears), sl_bears⟩)
    (c_bears : PySem.W.codeIn K cd_bears "bears" = true)
    (k_bears : PySem.W.keepIn K (.ref f_bears) = true)
    (a_Least : PySem.W.findIn K (.ref C0) "__init__" = some (some (.ref f_Least)))
    (i_Least : PySem.W.isFn K (.ref f_Least) = true)
    (l_Least : K.lookup f_Least = some ⟨oc_Least, od_Least, .func (PySem.W.fnOf "__init__" "Least.__init__" (defArgs s_Least_init) (defBody s_Least_init) (defScope s_Least_init) .none kV_Least dc_Least pm_Least an_Least cd_Least ct_Least), sl_Least⟩)
    (c_Least : PySem.W.codeIn K cd_Least "Least.__init__" = true)
    (k_Least : PySem.W.keepIn K (.ref f_Least) = true)
    (a_Stuck : PySem.W.findIn K (.ref C1) "__init__" = some (some (.ref f_Stuck)))
    (i_Stuck : PySem.W.isFn K (.ref f_Stuck) = true)
    (l_Stuck : K.lookup f_Stuck = some ⟨oc_Stuck, od_Stuck, .func (PySem.W.fnOf "__init__" "Stuck.__init__" (defArgs s_Stuck_init) (defBody s_Stuck_init) (defScope s_Stuck_init) .none kV_Stuck dc_Stuck pm_Stuck an_Stuck cd_Stuck ct_Stuck), sl_Stuck⟩)
    (c_Stuck : PySem.W.codeIn K cd_Stuck "Stuck.__init__" = true)
    (k_Stuck : PySem.W.keepIn K (.ref f_Stuck) = true)
    (a_least : PySem.W.nsIn K mainGlobals "least" = some (some (.ref f_least)))
    (l_least : K.lookup f_least = some ⟨oc_least, od_least, .func (PySem.W.fnOf "least" "least" (defArgs s_least) (defBody s_least) (defScope s_least) .none kV_least dc_least pm_least an_least cd_least ct_least), sl_least⟩)
    (c_least : PySem.W.codeIn K cd_least "least" = true)
    (k_least : PySem.W.keepIn K (.ref f_least) = true)
    (a_Least_shows : PySem.W.findIn K (.ref C0) "shows" = some (some (.ref f_Least_shows)))
    (i_Least_shows : PySem.W.isFn K (.ref f_Least_shows) = true)
    (l_Least_shows : K.lookup f_Least_shows = some ⟨oc_Least_shows, od_Least_shows, .func (PySem.W.fnOf "shows" "Least.shows" (defArgs s_Least_shows) (defBody s_Least_shows) (defScope s_Least_shows) .none kV_Least_shows dc_Least_shows pm_Least_shows an_Least_shows cd_Least_shows ct_Least_shows), sl_Least_shows⟩)
    (c_Least_shows : PySem.W.codeIn K cd_Least_shows "Least.shows" = true)
    (k_Least_shows : PySem.W.keepIn K (.ref f_Least_shows) = true)
    (a_Stuck_shows : PySem.W.findIn K (.ref C1) "shows" = some (some (.ref f_Stuck_shows)))
    (i_Stuck_shows : PySem.W.isFn K (.ref f_Stuck_shows) = true)
    (l_Stuck_shows : K.lookup f_Stuck_shows = some ⟨oc_Stuck_shows, od_Stuck_shows, .func (PySem.W.fnOf "shows" "Stuck.shows" (defArgs s_Stuck_shows) (defBody s_Stuck_shows) (defScope s_Stuck_shows) .none kV_Stuck_shows dc_Stuck_shows pm_Stuck_shows an_Stuck_shows cd_Stuck_shows ct_Stuck_shows), sl_Stuck_shows⟩)
    (c_Stuck_shows : PySem.W.codeIn K cd_Stuck_shows "Stuck.shows" = true)
    (k_Stuck_shows : PySem.W.keepIn K (.ref f_Stuck_shows) = true)
    (a__law_says : PySem.W.nsIn K mainGlobals "_law_says" = some (some (.ref f__law_says)))
    (l__law_says : K.lookup f__law_says = some ⟨oc__law_says, od__law_says, .func (PySem.W.fnOf "_law_says" "_law_says" (defArgs s__law_says) (defBody s__law_says) (defScope s__law_says) .none kV__law_says dc__law_says pm__law_says an__law_says cd__law_says ct__law_says), sl__law_says⟩)
    (c__law_says : PySem.W.codeIn K cd__law_says "_law_says" = true)
    (k__law_says : PySem.W.keepIn K (.ref f__law_says) = true)
    (a__law_stand : PySem.W.nsIn K mainGlobals "_law_stand" = some (some (.ref f__law_stand)))
    (l__law_stand : K.lookup f__law_stand = some ⟨oc__law_stand, od__law_stand, .func (PySem.W.fnOf "_law_stand" "_law_stand" (defArgs s__law_stand) (defBody s__law_stand) (defScope s__law_stand) .none kV__law_stand dc__law_stand pm__law_stand an__law_stand cd__law_stand ct__law_stand), sl__law_stand⟩)
    (c__law_stand : PySem.W.codeIn K cd__law_stand "_law_stand" = true)
    (k__law_stand : PySem.W.keepIn K (.ref f__law_stand) = true)
    (a__law_bears : PySem.W.nsIn K mainGlobals "_law_bears" = some (some (.ref f__law_bears)))
    (l__law_bears : K.lookup f__law_bears = some ⟨oc__law_bears, od__law_bears, .func (PySem.W.fnOf "_law_bears" "_law_bears" (defArgs s__law_bears) (defBody s__law_bears) (defScope s__law_bears) .none kV__law_bears dc__law_bears pm__law_bears an__law_bears cd__law_bears ct__law_bears), sl__law_bears⟩)
    (c__law_bears : PySem.W.codeIn K cd__law_bears "_law_bears" = true)
    (k__law_bears : PySem.W.keepIn K (.ref f__law_bears) = true)
    (a__law_is_least : PySem.W.nsIn K mainGlobals "_law_is_least" = some (some (.ref f__law_is_least)))
    (l__law_is_least : K.lookup f__law_is_least = some ⟨oc__law_is_least, od__law_is_least, .func (PySem.W.fnOf "_law_is_least" "_law_is_least" (defArgs s__law_is_least) (defBody s__law_is_least) (defScope s__law_is_least) .none kV__law_is_least dc__law_is_least pm__law_is_least an__law_is_least cd__law_is_least ct__law_is_least), sl__law_is_least⟩)
    (c__law_is_least : PySem.W.codeIn K cd__law_is_least "_law_is_least" = true)
    (k__law_is_least : PySem.W.keepIn K (.ref f__law_is_least) = true)
    (a__law_is_stuck : PySem.W.nsIn K mainGlobals "_law_is_stuck" = some (some (.ref f__law_is_stuck)))
    (l__law_is_stuck : K.lookup f__law_is_stuck = some ⟨oc__law_is_stuck, od__law_is_stuck, .func (PySem.W.fnOf "_law_is_stuck" "_law_is_stuck" (defArgs s__law_is_stuck) (defBody s__law_is_stuck) (defScope s__law_is_stuck) .none kV__law_is_stuck dc__law_is_stuck pm__law_is_stuck an__law_is_stuck cd__law_is_stuck ct__law_is_stuck), sl__law_is_stuck⟩)
    (c__law_is_stuck : PySem.W.codeIn K cd__law_is_stuck "_law_is_stuck" = true)
    (k__law_is_stuck : PySem.W.keepIn K (.ref f__law_is_stuck) = true)
    (a__law_right : PySem.W.nsIn K mainGlobals "_law_right" = some (some (.ref f__law_right)))
    (l__law_right : K.lookup f__law_right = some ⟨oc__law_right, od__law_right, .func (PySem.W.fnOf "_law_right" "_law_right" (defArgs s__law_right) (defBody s__law_right) (defScope s__law_right) .none kV__law_right dc__law_right pm__law_right an__law_right cd__law_right ct__law_right), sl__law_right⟩)
    (c__law_right : PySem.W.codeIn K cd__law_right "_law_right" = true)
    (k__law_right : PySem.W.keepIn K (.ref f__law_right) = true)
    (a__law_bent : PySem.W.nsIn K mainGlobals "_law_bent" = some (some (.ref f__law_bent)))
    (l__law_bent : K.lookup f__law_bent = some ⟨oc__law_bent, od__law_bent, .func (PySem.W.fnOf "_law_bent" "_law_bent" (defArgs s__law_bent) (defBody s__law_bent) (defScope s__law_bent) .none kV__law_bent dc__law_bent pm__law_bent an__law_bent cd__law_bent ct__law_bent), sl__law_bent⟩)
    (c__law_bent : PySem.W.codeIn K cd__law_bent "_law_bent" = true)
    (k__law_bent : PySem.W.keepIn K (.ref f__law_bent) = true)
    (a__law_lots : PySem.W.nsIn K mainGlobals "_law_lots" = some (some (.ref f__law_lots)))
    (l__law_lots : K.lookup f__law_lots = some ⟨oc__law_lots, od__law_lots, .func (PySem.W.fnOf "_law_lots" "_law_lots" (defArgs s__law_lots) (defBody s__law_lots) (defScope s__law_lots) .none kV__law_lots dc__law_lots pm__law_lots an__law_lots cd__law_lots ct__law_lots), sl__law_lots⟩)
    (c__law_lots : PySem.W.codeIn K cd__law_lots "_law_lots" = true)
    (k__law_lots : PySem.W.keepIn K (.ref f__law_lots) = true)
    (a_law : PySem.W.nsIn K mainGlobals "law" = some (some (.ref f_law)))
    (l_law : K.lookup f_law = some ⟨oc_law, od_law, .func (PySem.W.fnOf "law" "law" (defArgs s_law) (defBody s_law) (defScope s_law) .none kV_law dc_law pm_law an_law cd_law ct_law), sl_law⟩)
    (c_law : PySem.W.codeIn K cd_law "law" = true)
    (k_law : PySem.W.keepIn K (.ref f_law) = true)
    : ∃ fd : FuncData, (∀ (s : Shared) (v : Value), BindsTo s fd ⟨[v], []⟩ [("_law_script", v)]) ∧ ∀ base : Heap, K.In base → base.Ns mainGlobals mg → FnOk l.prog w K mg base CX0 7 fa fd ["_law_script"] (spLaw K) := by
  have e := hfa.symm.trans (PySem.W.mg_of X G a_law)
  cases e
  let cl : Nat → Addr := fun n => match n with | 0 => C0 | 1 => C1 | _ => 0
  let p : Pm := ⟨K, cl⟩
  have T : Blt mg := ⟨PySem.W.mg_none_of X G z_len, PySem.W.mg_none_of X G z_sum, PySem.W.mg_none_of X G z_max, PySem.W.mg_none_of X G z_min, PySem.W.mg_none_of X G z_all, PySem.W.mg_none_of X G z_any, PySem.W.mg_none_of X G z_sorted, PySem.W.mg_none_of X G z_list, PySem.W.mg_none_of X G z_range, PySem.W.mg_none_of X G z_enumerate, PySem.W.mg_none_of X G z_zip, PySem.W.mg_none_of X G z_isinstance, PySem.W.mg_none_of X G z_int, PySem.W.mg_none_of X G z_bool, PySem.W.mg_none_of X G z_abs, PySem.W.mg_none_of X G z_set, PySem.W.mg_none_of X G z_tuple⟩
  have C_ : Csts p mg := ⟨⟨_, PySem.W.mg_of X G a_MOST_WEIGHT⟩, ⟨_, PySem.W.mg_of X G a_MOST_BOOKS⟩, ⟨⟨pg_0, hd_0, po_0, sa_0⟩, PySem.W.mg_of X G ac_0, ha_0, hn_, tk_, mo_0⟩, na_0_rows, na_0_stay, ⟨⟨pg_1, hd_1, po_1, sa_1⟩, PySem.W.mg_of X G ac_1, ha_1, hn_, tk_, mo_1⟩, na_1_other, na_1_one, (kit_sub ne_0_1 ic_1 ty_1 su_0_1), kit_self⟩
  have D_heights : Df p.K mg "heights" s_heights := ⟨_, _, fun_mk (st := s_heights) l_heights c_heights k_heights, PySem.W.mg_of X G a_heights⟩
  have D_staying : Df p.K mg "staying" s_staying := ⟨_, _, fun_mk (st := s_staying) l_staying c_staying k_staying, PySem.W.mg_of X G a_staying⟩
  have D_paper : Df p.K mg "paper" s_paper := ⟨_, _, fun_mk (st := s_paper) l_paper c_paper k_paper, PySem.W.mg_of X G a_paper⟩
  have D_stand_right : Df p.K mg "stand_right" s_stand_right := ⟨_, _, fun_mk (st := s_stand_right) l_stand_right c_stand_right k_stand_right, PySem.W.mg_of X G a_stand_right⟩
  have D_free_ones : Df p.K mg "free_ones" s_free_ones := ⟨_, _, fun_mk (st := s_free_ones) l_free_ones c_free_ones k_free_ones, PySem.W.mg_of X G a_free_ones⟩
  have D_clash : Df p.K mg "clash" s_clash := ⟨_, _, fun_mk (st := s_clash) l_clash c_clash k_clash, PySem.W.mg_of X G a_clash⟩
  have D_weight_of : Df p.K mg "weight_of" s_weight_of := ⟨_, _, fun_mk (st := s_weight_of) l_weight_of c_weight_of k_weight_of, PySem.W.mg_of X G a_weight_of⟩
  have D_are_in : Df p.K mg "are_in" s_are_in := ⟨_, _, fun_mk (st := s_are_in) l_are_in c_are_in k_are_in, PySem.W.mg_of X G a_are_in⟩
  have D_is_staying : Df p.K mg "is_staying" s_is_staying := ⟨_, _, fun_mk (st := s_is_staying) l_is_staying c_is_staying k_is_staying, PySem.W.mg_of X G a_is_staying⟩
  have D_is_whole : Df p.K mg "is_whole" s_is_whole := ⟨_, _, fun_mk (st := s_is_whole) l_is_whole c_is_whole k_is_whole, PySem.W.mg_of X G a_is_whole⟩
  have D_is_between : Df p.K mg "is_between" s_is_between := ⟨_, _, fun_mk (st := s_is_between) l_is_between c_is_between k_is_between, PySem.W.mg_of X G a_is_between⟩
  have D_are_books : Df p.K mg "are_books" s_are_books := ⟨_, _, fun_mk (st := s_are_books) l_are_books c_are_books k_are_books, PySem.W.mg_of X G a_are_books⟩
  have D_check_weights : Df p.K mg "check_weights" s_check_weights := ⟨_, _, fun_mk (st := s_check_weights) l_check_weights c_check_weights k_check_weights, PySem.W.mg_of X G a_check_weights⟩
  have D_check_all : Df p.K mg "check_all" s_check_all := ⟨_, _, fun_mk (st := s_check_all) l_check_all c_check_all k_check_all, PySem.W.mg_of X G a_check_all⟩
  have D_check_nailed : Df p.K mg "check_nailed" s_check_nailed := ⟨_, _, fun_mk (st := s_check_nailed) l_check_nailed c_check_nailed k_check_nailed, PySem.W.mg_of X G a_check_nailed⟩
  have D_check_three : Df p.K mg "check_three" s_check_three := ⟨_, _, fun_mk (st := s_check_three) l_check_three c_check_three k_check_three, PySem.W.mg_of X G a_check_three⟩
  have D__law_number : Df p.K mg "_law_number" s__law_number := ⟨_, _, fun_mk (st := s__law_number) l__law_number c__law_number k__law_number, PySem.W.mg_of X G a__law_number⟩
  have D__law_order : Df p.K mg "_law_order" s__law_order := ⟨_, _, fun_mk (st := s__law_order) l__law_order c__law_order k__law_order, PySem.W.mg_of X G a__law_order⟩
  have D__law_weights : Df p.K mg "_law_weights" s__law_weights := ⟨_, _, fun_mk (st := s__law_weights) l__law_weights c__law_weights k__law_weights, PySem.W.mg_of X G a__law_weights⟩
  have D__law_nailed : Df p.K mg "_law_nailed" s__law_nailed := ⟨_, _, fun_mk (st := s__law_nailed) l__law_nailed c__law_nailed k__law_nailed, PySem.W.mg_of X G a__law_nailed⟩
  have D__law_right_two : Df p.K mg "_law_right_two" s__law_right_two := ⟨_, _, fun_mk (st := s__law_right_two) l__law_right_two c__law_right_two k__law_right_two, PySem.W.mg_of X G a__law_right_two⟩
  have D__law_free : Df p.K mg "_law_free" s__law_free := ⟨_, _, fun_mk (st := s__law_free) l__law_free c__law_free k__law_free, PySem.W.mg_of X G a__law_free⟩
  have D_bears : Df p.K mg "bears" s_bears := ⟨_, _, fun_mk (st := s_bears) l_bears c_bears k_bears, PySem.W.mg_of X G a_bears⟩
  have D_Least : Di p.K (p.cl 0) "Least.__init__" s_Least_init := ⟨_, _, fun_mk (st := s_Least_init) l_Least c_Least k_Least, mk_0, a_Least, i_Least, kc_0⟩
  have D_Stuck : Di p.K (p.cl 1) "Stuck.__init__" s_Stuck_init := ⟨_, _, fun_mk (st := s_Stuck_init) l_Stuck c_Stuck k_Stuck, mk_1, a_Stuck, i_Stuck, kc_1⟩
  have D_least : Df p.K mg "least" s_least := ⟨_, _, fun_mk (st := s_least) l_least c_least k_least, PySem.W.mg_of X G a_least⟩
  have D_Least_shows : Dm p.K (p.cl 0) "shows" "Least.shows" s_Least_shows := ⟨_, _, fun_mk (st := s_Least_shows) l_Least_shows c_Least_shows k_Least_shows, a_Least_shows, i_Least_shows, k_Least_shows⟩
  have D_Stuck_shows : Dm p.K (p.cl 1) "shows" "Stuck.shows" s_Stuck_shows := ⟨_, _, fun_mk (st := s_Stuck_shows) l_Stuck_shows c_Stuck_shows k_Stuck_shows, a_Stuck_shows, i_Stuck_shows, k_Stuck_shows⟩
  have D__law_says : Df p.K mg "_law_says" s__law_says := ⟨_, _, fun_mk (st := s__law_says) l__law_says c__law_says k__law_says, PySem.W.mg_of X G a__law_says⟩
  have D__law_stand : Df p.K mg "_law_stand" s__law_stand := ⟨_, _, fun_mk (st := s__law_stand) l__law_stand c__law_stand k__law_stand, PySem.W.mg_of X G a__law_stand⟩
  have D__law_bears : Df p.K mg "_law_bears" s__law_bears := ⟨_, _, fun_mk (st := s__law_bears) l__law_bears c__law_bears k__law_bears, PySem.W.mg_of X G a__law_bears⟩
  have D__law_is_least : Df p.K mg "_law_is_least" s__law_is_least := ⟨_, _, fun_mk (st := s__law_is_least) l__law_is_least c__law_is_least k__law_is_least, PySem.W.mg_of X G a__law_is_least⟩
  have D__law_is_stuck : Df p.K mg "_law_is_stuck" s__law_is_stuck := ⟨_, _, fun_mk (st := s__law_is_stuck) l__law_is_stuck c__law_is_stuck k__law_is_stuck, PySem.W.mg_of X G a__law_is_stuck⟩
  have D__law_right : Df p.K mg "_law_right" s__law_right := ⟨_, _, fun_mk (st := s__law_right) l__law_right c__law_right k__law_right, PySem.W.mg_of X G a__law_right⟩
  have D__law_bent : Df p.K mg "_law_bent" s__law_bent := ⟨_, _, fun_mk (st := s__law_bent) l__law_bent c__law_bent k__law_bent, PySem.W.mg_of X G a__law_bent⟩
  have D__law_lots : Df p.K mg "_law_lots" s__law_lots := ⟨_, _, fun_mk (st := s__law_lots) l__law_lots c__law_lots k__law_lots, PySem.W.mg_of X G a__law_lots⟩
  refine ⟨PySem.W.fnOf "law" "law" (defArgs s_law) (defBody s_law) (defScope s_law) .none kV_law dc_law pm_law an_law cd_law ct_law, fun s v => .of_eq rfl, fun base _ _ => ?_⟩
  have r_heights := cal_heights (P := l.prog) (w := w) (p := p) (mg := mg) (base := base) T C_  D_heights
  have r_staying := cal_staying (P := l.prog) (w := w) (p := p) (mg := mg) (base := base) T C_ r_heights D_staying
  have r_paper := cal_paper (P := l.prog) (w := w) (p := p) (mg := mg) (base := base) T C_ r_heights D_paper
  have r_stand_right := cal_stand_right (P := l.prog) (w := w) (p := p) (mg := mg) (base := base) T C_  D_stand_right
  have r_free_ones := cal_free_ones (P := l.prog) (w := w) (p := p) (mg := mg) (base := base) T C_ r_stand_right D_free_ones
  have r_clash := cal_clash (P := l.prog) (w := w) (p := p) (mg := mg) (base := base) T C_ r_stand_right D_clash
  have r_weight_of := cal_weight_of (P := l.prog) (w := w) (p := p) (mg := mg) (base := base) T C_  D_weight_of
  have r_are_in := cal_are_in (P := l.prog) (w := w) (p := p) (mg := mg) (base := base) T C_  D_are_in
  have r_is_staying := cal_is_staying (P := l.prog) (w := w) (p := p) (mg := mg) (base := base) T C_ r_are_in D_is_staying
  have r_is_whole := cal_is_whole (P := l.prog) (w := w) (p := p) (mg := mg) (base := base) T C_  D_is_whole
  have r_is_between := cal_is_between (P := l.prog) (w := w) (p := p) (mg := mg) (base := base) T C_ r_is_whole D_is_between
  have r_are_books := cal_are_books (P := l.prog) (w := w) (p := p) (mg := mg) (base := base) T C_ r_is_whole D_are_books
  have r_check_weights := cal_check_weights (P := l.prog) (w := w) (p := p) (mg := mg) (base := base) T C_ r_is_between D_check_weights
  have r_check_all := cal_check_all (P := l.prog) (w := w) (p := p) (mg := mg) (base := base) T C_ r_are_books r_check_weights D_check_all
  have r_check_nailed := cal_check_nailed (P := l.prog) (w := w) (p := p) (mg := mg) (base := base) T C_ r_is_between D_check_nailed
  have r_check_three := cal_check_three (P := l.prog) (w := w) (p := p) (mg := mg) (base := base) T C_ r_check_all r_check_nailed D_check_three
  have r__law_number := cal__law_number (P := l.prog) (w := w) (p := p) (mg := mg) (base := base) T C_  D__law_number
  have r__law_order := cal__law_order (P := l.prog) (w := w) (p := p) (mg := mg) (base := base) T C_ r__law_number D__law_order
  have r__law_weights := cal__law_weights (P := l.prog) (w := w) (p := p) (mg := mg) (base := base) T C_ r__law_number D__law_weights
  have r__law_nailed := cal__law_nailed (P := l.prog) (w := w) (p := p) (mg := mg) (base := base) T C_ r__law_number D__law_nailed
  have r__law_right_two := cal__law_right_two (P := l.prog) (w := w) (p := p) (mg := mg) (base := base) T C_  D__law_right_two
  have r__law_free := cal__law_free (P := l.prog) (w := w) (p := p) (mg := mg) (base := base) T C_ r__law_right_two D__law_free
  have r_bears := cal_bears (P := l.prog) (w := w) (p := p) (mg := mg) (base := base) T C_ r_are_in D_bears
  have r_Least := cal_Least (P := l.prog) (w := w) (p := p) (mg := mg) (base := base) T C_  D_Least
  have r_Stuck := cal_Stuck (P := l.prog) (w := w) (p := p) (mg := mg) (base := base) T C_  D_Stuck
  have r_least := cal_least (P := l.prog) (w := w) (p := p) (mg := mg) (base := base) T C_ r_Least r_Stuck r_check_three r_clash r_free_ones r_paper r_staying D_least
  have r_m_shows_3 := mts_shows_3 (P := l.prog) (w := w) (p := p) (mg := mg) (base := base) T C_ r_bears r_free_ones r_is_staying r_weight_of D_Least_shows D_Stuck_shows
  have r__law_says := cal__law_says (P := l.prog) (w := w) (p := p) (mg := mg) (base := base) T C_  D__law_says
  have r__law_stand := cal__law_stand (P := l.prog) (w := w) (p := p) (mg := mg) (base := base) T C_  D__law_stand
  have r__law_bears := cal__law_bears (P := l.prog) (w := w) (p := p) (mg := mg) (base := base) T C_ r__law_stand D__law_bears
  have r__law_is_least := cal__law_is_least (P := l.prog) (w := w) (p := p) (mg := mg) (base := base) T C_ r__law_bears r__law_free r__law_stand D__law_is_least
  have r__law_is_stuck := cal__law_is_stuck (P := l.prog) (w := w) (p := p) (mg := mg) (base := base) T C_  D__law_is_stuck
  have r__law_right := cal__law_right (P := l.prog) (w := w) (p := p) (mg := mg) (base := base) T C_ r_Least r__law_is_least r__law_says r_m_shows_3 D__law_right
  have r__law_bent := cal__law_bent (P := l.prog) (w := w) (p := p) (mg := mg) (base := base) T C_  D__law_bent
  have r__law_lots := cal__law_lots (P := l.prog) (w := w) (p := p) (mg := mg) (base := base) T C_ r__law_bent D__law_lots
  have F := ok_law (P := l.prog) (w := w) (p := p) (mg := mg) (base := base) T C_ r_Least r_Stuck r__law_is_stuck r__law_lots r__law_nailed r__law_order r__law_right r__law_says r__law_weights r_least r_m_shows_3 (fun_mk (st := s_law) l_law c_law k_law)
  refine F.imp fun vs H Q E hs => ?_
  obtain ⟨a, ns, rfl, hS, hl, q⟩ := hs
  refine ⟨H, ⟨ns⟩, true, .refl H, ⟨.ref a, [], rfl, ⟨a, rfl, hS⟩, rfl⟩, law_true ns hl, fun v G2 H2 g2 r2 => ?_⟩
  cases (show v = .bl true from r2)
  exact q H2
theorem walk {l : PySem.W.OpenLaw} {q : Program} {loose : List Str} {XP : (Str → Option Value) → Heap → Prop} {YP : World → Heap → Prop} {d : DefRec} {K : Params → PySem.W.Frag} (hn : l.most = some 63) (hdf : d.params.defaults = [])
    (hY : ∀ (w : World) (h : Heap), YP w h → (K w.params).In h)
    (F : ∀ (w : World) (mg : Str → Option Value) (fa : Addr) (h : Heap), (K w.params).In h → h.Ns mainGlobals mg → mg d.name = some (.ref fa) →
      ∃ fd : FuncData, (∀ (s : Shared) (u : Value), BindsTo s fd ⟨[u], []⟩ [("_law_script", u)]) ∧ ∀ base : Heap, (K w.params).In base → base.Ns mainGlobals mg → FnOk l.prog w (K w.params) mg base CX0 7 fa fd ["_law_script"] (spLaw (K w.params))) :
    PySem.W.WalkO q loose XP YP l.row.toRowW d [] (fun f vs => PySem.call f vs) :=
  L2.walk_of (n := 63) (k := 7) (x := "_law_script") (CX := fun _ => CX0) (sp := fun w => spLaw (K w.params)) hn (by decide) hdf ⟨rfl, by decide, by decide⟩ hY F (fun _ _ a ns hl _ hS => ⟨a, ns, rfl, hS, hl, fun _ => rfl⟩) fun _ _ _ _ _ z => z
end Fw
open PySem PySem.W PyProof.Rows in
set_option maxRecDepth 100000 in
set_option maxHeartbeats 0 in
theorem PySem.Challenge.cw_fewtakings_k02_least_by_hand_holds : PySem.Challenge.rw_fewtakings_k02_least_by_hand.Holds := by
  w_on; o_law; k_head; (case hw => w_witness2)
  k_fill
  refine Fw.walk (l := PySem.Challenge.rw_fewtakings_k02_least_by_hand) rfl rfl (fun w h Y => PySem.W.kIn_of Y) ?F
  case F =>
    intro w mg fa h KX G hmg
    refine' Fw.all_mk KX G hmg ?z_len ?z_sum ?z_max ?z_min ?z_all ?z_any ?z_sorted ?z_list ?z_range ?z_enumerate ?z_zip ?z_isinstance ?z_int ?z_bool ?z_abs ?z_set ?z_tuple ?ac_0 ?pg_0 ?hd_0 ?po_0 ?sa_0 ?ha_0 ?mo_0 ?mk_0 ?kc_0 ?ac_1 ?pg_1 ?hd_1 ?po_1 ?sa_1 ?ha_1 ?mo_1 ?mk_1 ?kc_1 ?hn_ ?tk_ ?a_MOST_WEIGHT ?a_MOST_BOOKS ?na_0_rows ?na_0_stay ?na_1_other ?na_1_one ?ic_1 ?ty_1 ?ne_0_1 ?su_0_1 ?a_heights ?l_heights ?c_heights ?k_heights ?a_staying ?l_staying ?c_staying ?k_staying ?a_paper ?l_paper ?c_paper ?k_paper ?a_stand_right ?l_stand_right ?c_stand_right ?k_stand_right ?a_free_ones ?l_free_ones ?c_free_ones ?k_free_ones ?a_clash ?l_clash ?c_clash ?k_clash ?a_weight_of ?l_weight_of ?c_weight_of ?k_weight_of ?a_are_in ?l_are_in ?c_are_in ?k_are_in ?a_is_staying ?l_is_staying ?c_is_staying ?k_is_staying ?a_is_whole ?l_is_whole ?c_is_whole ?k_is_whole ?a_is_between ?l_is_between ?c_is_between ?k_is_between ?a_are_books ?l_are_books ?c_are_books ?k_are_books ?a_check_weights ?l_check_weights ?c_check_weights ?k_check_weights ?a_check_all ?l_check_all ?c_check_all ?k_check_all ?a_check_nailed ?l_check_nailed ?c_check_nailed ?k_check_nailed ?a_check_three ?l_check_three ?c_check_three ?k_check_three ?a__law_number ?l__law_number ?c__law_number ?k__law_number ?a__law_order ?l__law_order ?c__law_order ?k__law_order ?a__law_weights ?l__law_weights ?c__law_weights ?k__law_weights ?a__law_nailed ?l__law_nailed ?c__law_nailed ?k__law_nailed ?a__law_right_two ?l__law_right_two ?c__law_right_two ?k__law_right_two ?a__law_free ?l__law_free ?c__law_free ?k__law_free ?a_bears ?l_bears ?c_bears ?k_bears ?a_Least ?i_Least ?l_Least ?c_Least ?k_Least ?a_Stuck ?i_Stuck ?l_Stuck ?c_Stuck ?k_Stuck ?a_least ?l_least ?c_least ?k_least ?a_Least_shows ?i_Least_shows ?l_Least_shows ?c_Least_shows ?k_Least_shows ?a_Stuck_shows ?i_Stuck_shows ?l_Stuck_shows ?c_Stuck_shows ?k_Stuck_shows ?a__law_says ?l__law_says ?c__law_says ?k__law_says ?a__law_stand ?l__law_stand ?c__law_stand ?k__law_stand ?a__law_bears ?l__law_bears ?c__law_bears ?k__law_bears ?a__law_is_least ?l__law_is_least ?c__law_is_least ?k__law_is_least ?a__law_is_stuck ?l__law_is_stuck ?c__law_is_stuck ?k__law_is_stuck ?a__law_right ?l__law_right ?c__law_right ?k__law_right ?a__law_bent ?l__law_bent ?c__law_bent ?k__law_bent ?a__law_lots ?l__law_lots ?c__law_lots ?k__law_lots ?a_law ?l_law ?c_law ?k_law
    (case z_len => k_is)
    (case z_sum => k_is)
    (case z_max => k_is)
    (case z_min => k_is)
    (case z_all => k_is)
    (case z_any => k_is)
    (case z_sorted => k_is)
    (case z_list => k_is)
    (case z_range => k_is)
    (case z_enumerate => k_is)
    (case z_zip => k_is)
    (case z_isinstance => k_is)
    (case z_int => k_is)
    (case z_bool => k_is)
    (case z_abs => k_is)
    (case z_set => k_is)
    (case z_tuple => k_is)
    (case ac_0 => k_is)
    (case pg_0 => k_is)
    (case hd_0 => k_is)
    (case po_0 => k_is)
    (case sa_0 => k_is)
    (case ha_0 => k_is)
    (case mo_0 => k_is)
    (case mk_0 => k_is)
    (case kc_0 => k_is)
    (case ac_1 => k_is)
    (case pg_1 => k_is)
    (case hd_1 => k_is)
    (case po_1 => k_is)
    (case sa_1 => k_is)
    (case ha_1 => k_is)
    (case mo_1 => k_is)
    (case mk_1 => k_is)
    (case kc_1 => k_is)
    (case hn_ => k_is)
    (case tk_ => k_is)
    (case a_MOST_WEIGHT => k_is)
    (case a_MOST_BOOKS => k_is)
    (case na_0_rows => k_is)
    (case na_0_stay => k_is)
    (case na_1_other => k_is)
    (case na_1_one => k_is)
    (case ic_1 => k_is)
    (case ty_1 => k_is)
    (case ne_0_1 => first | k_is | rfl | decide)
    (case su_0_1 => first | k_is | rfl | decide)
    (case a_heights => k_is)
    (case l_heights => k_is)
    (case c_heights => k_is)
    (case k_heights => k_is)
    (case a_staying => k_is)
    (case l_staying => k_is)
    (case c_staying => k_is)
    (case k_staying => k_is)
    (case a_paper => k_is)
    (case l_paper => k_is)
    (case c_paper => k_is)
    (case k_paper => k_is)
    (case a_stand_right => k_is)
    (case l_stand_right => k_is)
    (case c_stand_right => k_is)
    (case k_stand_right => k_is)
    (case a_free_ones => k_is)
    (case l_free_ones => k_is)
    (case c_free_ones => k_is)
    (case k_free_ones => k_is)
    (case a_clash => k_is)
    (case l_clash => k_is)
    (case c_clash => k_is)
    (case k_clash => k_is)
    (case a_weight_of => k_is)
    (case l_weight_of => k_is)
    (case c_weight_of => k_is)
    (case k_weight_of => k_is)
    (case a_are_in => k_is)
    (case l_are_in => k_is)
    (case c_are_in => k_is)
    (case k_are_in => k_is)
    (case a_is_staying => k_is)
    (case l_is_staying => k_is)
    (case c_is_staying => k_is)
    (case k_is_staying => k_is)
    (case a_is_whole => k_is)
    (case l_is_whole => k_is)
    (case c_is_whole => k_is)
    (case k_is_whole => k_is)
    (case a_is_between => k_is)
    (case l_is_between => k_is)
    (case c_is_between => k_is)
    (case k_is_between => k_is)
    (case a_are_books => k_is)
    (case l_are_books => k_is)
    (case c_are_books => k_is)
    (case k_are_books => k_is)
    (case a_check_weights => k_is)
    (case l_check_weights => k_is)
    (case c_check_weights => k_is)
    (case k_check_weights => k_is)
    (case a_check_all => k_is)
    (case l_check_all => k_is)
    (case c_check_all => k_is)
    (case k_check_all => k_is)
    (case a_check_nailed => k_is)
    (case l_check_nailed => k_is)
    (case c_check_nailed => k_is)
    (case k_check_nailed => k_is)
    (case a_check_three => k_is)
    (case l_check_three => k_is)
    (case c_check_three => k_is)
    (case k_check_three => k_is)
    (case a__law_number => k_is)
    (case l__law_number => k_is)
    (case c__law_number => k_is)
    (case k__law_number => k_is)
    (case a__law_order => k_is)
    (case l__law_order => k_is)
    (case c__law_order => k_is)
    (case k__law_order => k_is)
    (case a__law_weights => k_is)
    (case l__law_weights => k_is)
    (case c__law_weights => k_is)
    (case k__law_weights => k_is)
    (case a__law_nailed => k_is)
    (case l__law_nailed => k_is)
    (case c__law_nailed => k_is)
    (case k__law_nailed => k_is)
    (case a__law_right_two => k_is)
    (case l__law_right_two => k_is)
    (case c__law_right_two => k_is)
    (case k__law_right_two => k_is)
    (case a__law_free => k_is)
    (case l__law_free => k_is)
    (case c__law_free => k_is)
    (case k__law_free => k_is)
    (case a_bears => k_is)
    (case l_bears => k_is)
    (case c_bears => k_is)
    (case k_bears => k_is)
    (case a_Least => k_is)
    (case i_Least => k_is)
    (case l_Least => k_is)
    (case c_Least => k_is)
    (case k_Least => k_is)
    (case a_Stuck => k_is)
    (case i_Stuck => k_is)
    (case l_Stuck => k_is)
    (case c_Stuck => k_is)
    (case k_Stuck => k_is)
    (case a_least => k_is)
    (case l_least => k_is)
    (case c_least => k_is)
    (case k_least => k_is)
    (case a_Least_shows => k_is)
    (case i_Least_shows => k_is)
    (case l_Least_shows => k_is)
    (case c_Least_shows => k_is)
    (case k_Least_shows => k_is)
    (case a_Stuck_shows => k_is)
    (case i_Stuck_shows => k_is)
    (case l_Stuck_shows => k_is)
    (case c_Stuck_shows => k_is)
    (case k_Stuck_shows => k_is)
    (case a__law_says => k_is)
    (case l__law_says => k_is)
    (case c__law_says => k_is)
    (case k__law_says => k_is)
    (case a__law_stand => k_is)
    (case l__law_stand => k_is)
    (case c__law_stand => k_is)
    (case k__law_stand => k_is)
    (case a__law_bears => k_is)
    (case l__law_bears => k_is)
    (case c__law_bears => k_is)
    (case k__law_bears => k_is)
    (case a__law_is_least => k_is)
    (case l__law_is_least => k_is)
    (case c__law_is_least => k_is)
    (case k__law_is_least => k_is)
    (case a__law_is_stuck => k_is)
    (case l__law_is_stuck => k_is)
    (case c__law_is_stuck => k_is)
    (case k__law_is_stuck => k_is)
    (case a__law_right => k_is)
    (case l__law_right => k_is)
    (case c__law_right => k_is)
    (case k__law_right => k_is)
    (case a__law_bent => k_is)
    (case l__law_bent => k_is)
    (case c__law_bent => k_is)
    (case k__law_bent => k_is)
    (case a__law_lots => k_is)
    (case l__law_lots => k_is)
    (case c__law_lots => k_is)
    (case k__law_lots => k_is)
    (case a_law => k_is)
    (case l_law => k_is)
    (case c_law => k_is)
    (case k_law => k_is)

