import PyProof.Rows.All
import Wide.All
import OpenK.AllK
import Wide.FinOn
import HandS.ForMost
import HandS.Walk
import HandS.Style
import HandS.Wide
import HandS.SetFor
import HandS.Strs
import HandS.Conv
import HandS.IsInst
import HandS.Small
import KE.KDictZip
import HandS.ListItems
import HandS.Zip
import HandS.Nested
import HandS.ExcCtx
import HandS.HotCalls
import HandS.ExcIs
import HandS.WordsExc
import PySem.Challenge.RW_fewtakings_k12_refused_shelves
import HandS.EndTab
import KE.KNestM
set_option Elab.async false
set_option maxRecDepth 100000
set_option linter.all false
/-! PU1: data, what stands for it in the heap, states, judgements. -/
namespace PU
open PySem L2

/-- plain data -/
inductive D where
  | non | bl (b : Bool) | int (i : Int) | str (x : Str)
  | lst (ds : List D) | tup (ds : List D)
  | scr (ns : List Int)
  | adr (a : Addr)
  | dE
  | ins (c : Nat) (fs : List (Str × D))

structure Pm where
  K : PySem.W.Frag
  cl : Nat → Addr

mutual
def Rp (p : Pm) (G : Hp) : D → V → Prop
  | .non, v => v = .non
  | .bl b, v => v = .bl b
  | .int i, v => v = .int i
  | .adr a, v => v = .ref a
  | .dE, v => ∃ a, v = .ref a ∧ G a = some (.dK [])
  | .str x, v => v = .str x
  | .lst ds, v => ∃ a xs, v = .ref a ∧ G a = some (.lst xs) ∧ RpA p G ds xs
  | .tup ds, v => ∃ a xs, v = .ref a ∧ G a = some (.tup xs) ∧ RpA p G ds xs
  | .scr ns, v => ∃ a, v = .ref a ∧ SqL p.K G a (ns.map V.int)
  | .ins c fs, v => ∃ a dx xs, v = .ref a ∧ G a = some (.ins (p.cl c) dx xs) ∧ RpF p G fs xs
def RpA (p : Pm) (G : Hp) : List D → List V → Prop
  | [], xs => xs = []
  | d :: ds, xs => ∃ v vs, xs = v :: vs ∧ Rp p G d v ∧ RpA p G ds vs
def RpF (p : Pm) (G : Hp) : List (Str × D) → List (Str × V) → Prop
  | [], xs => xs = []
  | (f, d) :: ds, xs => ∃ v vs, xs = (f, v) :: vs ∧ Rp p G d v ∧ RpF p G ds vs
end

mutual
theorem Rp.mono {p : Pm} {G G' : Hp} (e : Same G G') : ∀ (d : D) {v : V}, Rp p G d v → Rp p G' d v
  | .non, _, h => h
  | .bl _, _, h => h
  | .int _, _, h => h
  | .adr _, _, h => h
  | .dE, _, h => by
    obtain ⟨a, h1, h2⟩ := h
    exact ⟨a, h1, e _ _ h2⟩
  | .str _, _, h => h
  | .lst ds, _, h => by
    obtain ⟨a, xs, h1, h2, h3⟩ := h
    exact ⟨a, xs, h1, e _ _ h2, RpA.mono e ds h3⟩
  | .tup ds, _, h => by
    obtain ⟨a, xs, h1, h2, h3⟩ := h
    exact ⟨a, xs, h1, e _ _ h2, RpA.mono e ds h3⟩
  | .scr ns, _, h => by
    obtain ⟨a, h1, h2⟩ := h
    exact ⟨a, h1, e.seq h2⟩
  | .ins c fs, _, h => by
    obtain ⟨a, dx, xs, h1, h2, h3⟩ := h
    exact ⟨a, dx, xs, h1, e _ _ h2, RpF.mono e fs h3⟩
theorem RpA.mono {p : Pm} {G G' : Hp} (e : Same G G') : ∀ (ds : List D) {vs : List V}, RpA p G ds vs → RpA p G' ds vs
  | [], _, h => h
  | d :: ds, _, h => by
    obtain ⟨v, vs, h1, h2, h3⟩ := h
    exact ⟨v, vs, h1, Rp.mono e d h2, RpA.mono e ds h3⟩
theorem RpF.mono {p : Pm} {G G' : Hp} (e : Same G G') : ∀ (ds : List (Str × D)) {vs : List (Str × V)}, RpF p G ds vs → RpF p G' ds vs
  | [], _, h => h
  | (f, d) :: ds, _, h => by
    obtain ⟨v, vs, h1, h2, h3⟩ := h
    exact ⟨v, vs, h1, Rp.mono e d h2, RpF.mono e ds h3⟩
end

section
variable {p : Pm} {G : Hp}
theorem RpA.nil : RpA p G [] [] := rfl
theorem RpA.cons {d : D} {ds : List D} {v : V} {vs : List V} (h : Rp p G d v) (t : RpA p G ds vs) : RpA p G (d :: ds) (v :: vs) := ⟨v, vs, rfl, h, t⟩
theorem RpA.length : ∀ {ds : List D} {vs : List V}, RpA p G ds vs → ds.length = vs.length
  | [], vs, h => by
    have e : vs = [] := h
    rw [e]
    rfl
  | d :: ds, _, h => by
    obtain ⟨v, vs, rfl, _, h3⟩ := h
    simp [RpA.length h3]
theorem RpA.get : ∀ {ds : List D} {vs : List V} {i : Nat} {d : D}, RpA p G ds vs → ds[i]? = some d → ∃ v, vs[i]? = some v ∧ Rp p G d v
  | [], _, _, _, _, e => by simp at e
  | d :: ds, _, 0, _, h, e => by
    obtain ⟨v, vs, rfl, h2, _⟩ := h
    simp at e; subst e
    exact ⟨v, rfl, h2⟩
  | d :: ds, _, i + 1, _, h, e => by
    obtain ⟨v, vs, rfl, _, h3⟩ := h
    obtain ⟨w, h4, h5⟩ := RpA.get (i := i) h3 (by simpa using e)
    exact ⟨w, by simpa using h4, h5⟩
theorem RpA.get' : ∀ {ds : List D} {vs : List V} {i : Nat} {v : V}, RpA p G ds vs → vs[i]? = some v → ∃ d, ds[i]? = some d ∧ Rp p G d v := by
  intro ds vs i v h e
  have hl := h.length
  have hi : i < ds.length := by rw [hl]; exact (List.getElem?_eq_some_iff.mp e).1
  obtain ⟨w, h1, h2⟩ := h.get (i := i) (d := ds[i]) (by simp [hi])
  rw [e] at h1; cases h1
  exact ⟨ds[i], by simp [hi], h2⟩
theorem RpA.append : ∀ {ds es : List D} {vs ws : List V}, RpA p G ds vs → RpA p G es ws → RpA p G (ds ++ es) (vs ++ ws)
  | [], _, _, _, h, k => by rw [show _ = [] from h]; exact k
  | d :: ds, _, _, _, h, k => by
    obtain ⟨v, vs, rfl, h2, h3⟩ := h
    exact ⟨v, vs ++ _, rfl, h2, RpA.append h3 k⟩
theorem RpA.take : ∀ {ds : List D} {vs : List V} (n : Nat), RpA p G ds vs → RpA p G (ds.take n) (vs.take n)
  | _, _, 0, _ => by simp; exact rfl
  | [], _, n + 1, h => by rw [show _ = [] from h]; exact rfl
  | d :: ds, _, n + 1, h => by
    obtain ⟨v, vs, rfl, h2, h3⟩ := h
    exact ⟨v, vs.take n, rfl, h2, RpA.take n h3⟩
theorem RpA.drop : ∀ {ds : List D} {vs : List V} (n : Nat), RpA p G ds vs → RpA p G (ds.drop n) (vs.drop n)
  | _, _, 0, h => h
  | [], _, n + 1, h => by rw [show _ = [] from h]; exact rfl
  | d :: ds, _, n + 1, h => by
    obtain ⟨v, vs, rfl, h2, h3⟩ := h
    exact RpA.drop n h3
theorem RpA.reverse : ∀ {ds : List D} {vs : List V}, RpA p G ds vs → RpA p G ds.reverse vs.reverse
  | [], _, h => by rw [show _ = [] from h]; exact rfl
  | d :: ds, _, h => by
    obtain ⟨v, vs, rfl, h2, h3⟩ := h
    rw [List.reverse_cons, List.reverse_cons]
    exact RpA.append (RpA.reverse h3) (.cons h2 .nil)
theorem RpA.set : ∀ {ds : List D} {vs : List V} {d : D} {v : V} (i : Nat), RpA p G ds vs → Rp p G d v → RpA p G (ds.set i d) (vs.set i v)
  | [], _, _, _, _, h, _ => by rw [show _ = [] from h]; exact rfl
  | d :: ds, _, _, _, 0, h, k => by
    obtain ⟨v, vs, rfl, h2, h3⟩ := h
    exact ⟨_, vs, rfl, k, h3⟩
  | d :: ds, _, _, _, i + 1, h, k => by
    obtain ⟨v, vs, rfl, h2, h3⟩ := h
    exact ⟨v, _, rfl, h2, RpA.set i h3 k⟩
theorem RpA.erase : ∀ {ds : List D} {vs : List V} (i : Nat), RpA p G ds vs → RpA p G (ds.eraseIdx i) (vs.eraseIdx i)
  | [], _, _, h => by rw [show _ = [] from h]; exact rfl
  | d :: ds, _, 0, h => by
    obtain ⟨v, vs, rfl, h2, h3⟩ := h
    exact h3
  | d :: ds, _, i + 1, h => by
    obtain ⟨v, vs, rfl, h2, h3⟩ := h
    exact ⟨v, _, rfl, h2, RpA.erase i h3⟩
theorem RpA.ints : ∀ {ns : List Int} {vs : List V}, RpA p G (ns.map D.int) vs → vs = ns.map V.int
  | [], _, h => h
  | n :: ns, _, h => by
    obtain ⟨v, vs, rfl, h2, h3⟩ := h
    rw [RpA.ints h3, show v = V.int n from h2]; rfl
theorem RpA.of_ints : ∀ {ns : List Int}, RpA p G (ns.map D.int) (ns.map V.int)
  | [] => rfl
  | n :: ns => ⟨_, _, rfl, rfl, RpA.of_ints⟩
theorem RpA.bls : ∀ {ns : List Bool} {vs : List V}, RpA p G (ns.map D.bl) vs → vs = ns.map V.bl
  | [], _, h => h
  | n :: ns, _, h => by
    obtain ⟨v, vs, rfl, h2, h3⟩ := h
    rw [RpA.bls h3, show v = V.bl n from h2]; rfl
end

/-! ### Lean types as data -/
class Enc (α : Type) where
  enc : α → D
open Enc
instance : Enc Int := ⟨.int⟩
instance : Enc Bool := ⟨.bl⟩
instance : Enc Unit := ⟨fun _ => .non⟩
instance : Enc D := ⟨id⟩
instance {α : Type} [Enc α] : Enc (List α) := ⟨fun xs => .lst (xs.map enc)⟩
instance {α β : Type} [Enc α] [Enc β] : Enc (α × β) := ⟨fun x => .tup [enc x.1, enc x.2]⟩
instance {α : Type} [Enc α] : Enc (Option α) := ⟨fun x => match x with | none => .non | some a => enc a⟩
structure Scr where
  ns : List Int
instance : Enc Scr := ⟨fun x => .scr x.ns⟩

/-! ### heaps -/
structure Gr (G G' H H' : Hp) : Prop where
  g : Same G G'
  s : Same G' H'
  h : Same H H'
  n : ∀ a o, G' a = some o → G a = none → H a = none
theorem Gr.refl {G H : Hp} (s : Same G H) : Gr G G H H := ⟨.refl _, s, .refl _, fun a o h k => by rw [h] at k; cases k⟩
theorem Gr.trans {G G1 G2 H H1 H2 : Hp} (a : Gr G G1 H H1) (b : Gr G1 G2 H1 H2) : Gr G G2 H H2 := ⟨a.g.trans b.g, b.s, a.h.trans b.h, fun x o h k => by
  cases e : G1 x with
  | none => exact a.h.free (b.n x o h e)
  | some o' => exact a.n x o' e k⟩
theorem same_new {H : Hp} {q : Addr} {o : HO} (h : H q = none) : Same H (upd H q o) := fun b u e => by
  rw [upd_ne (ne_of_none e h)]; exact e
theorem upd_mono {G H : Hp} {q : Addr} {o : HO} (s : Same G H) : Same (upd G q o) (upd H q o) := fun b u e => by
  by_cases hb : b = q
  · subst hb; rw [upd_same] at e ⊢; exact e
  · rw [upd_ne hb] at e ⊢; exact s _ _ e
/-- a new object, known -/
theorem Gr.new {G H : Hp} {q : Addr} {o : HO} (s : Same G H) (h : H q = none) : Gr G (upd G q o) H (upd H q o) :=
  ⟨same_new (s.free h), upd_mono s, same_new h, fun a u e k => by
    by_cases ha : a = q
    · subst ha; exact h
    · rw [upd_ne ha, k] at e; cases e⟩
/-- a new object, not known -/
theorem Gr.own {G H : Hp} {q : Addr} {o : HO} (s : Same G H) (h : H q = none) : Gr G G H (upd H q o) :=
  ⟨.refl _, s.trans (same_new h), same_new h, fun a u e k => by rw [k] at e; cases e⟩
/-- what stands in H' is taken up -/
theorem Gr.take {G G' H H' : Hp} {q : Addr} {o : HO} (g : Gr G G' H H') (h : H q = none) (h' : H' q = some o) (k : G' q = none) : Gr G (upd G' q o) H H' :=
  ⟨g.g.trans (same_new k), fun a u e => by
    by_cases ha : a = q
    · subst ha; rw [upd_same] at e; cases e; exact h'
    · rw [upd_ne ha] at e; exact g.s _ _ e, g.h, fun a u e k' => by
    by_cases ha : a = q
    · subst ha; exact h
    · rw [upd_ne ha] at e; exact g.n a u e k'⟩

/-! ### slots -/
/-- a thing of one's own, that may change: R G v F: v with the part F of the heap -/
structure Rs where
  R : Pm → Hp → V → Hp → Prop
  mono : ∀ {p G G' v F}, Same G G' → R p G v F → R p G' v F
inductive Sl where
  | fr
  | va (d : D)
  | rs (r : Rs)
def nil : Hp := fun _ => none
def sing (a : Addr) (o : HO) : Hp := upd nil a o
theorem sing_iff {a b : Addr} {o u : HO} : sing a o b = some u ↔ b = a ∧ o = u := by
  unfold sing
  by_cases h : b = a
  · subst h; rw [upd_same]; simp
  · rw [upd_ne h]; simp [nil, h]
/-- a list of one's own -/
def own (ds : List D) : Rs where
  R := fun p G v F => ∃ l vs, v = .ref l ∧ F = sing l (.lst vs) ∧ RpA p G ds vs
  mono := fun e h => by
    obtain ⟨l, vs, h1, h2, h3⟩ := h
    exact ⟨l, vs, h1, h2, RpA.mono e _ h3⟩
abbrev Sl.ow (ds : List D) : Sl := .rs (own ds)

/-- the things of one's own stand apart -/
structure RsOk (p : Pm) (H0 : Hp) (env : List Sl) (σ : St) (G H : Hp) (Fs : Nat → Hp) : Prop where
  wh : ∀ (i : Nat) r, env[i]? = some (.rs r) → ∃ v, σ[i]? = some (some v) ∧ r.R p G v (Fs i) ∧ Same (Fs i) H ∧ ∀ a o, Fs i a = some o → G a = none ∧ H0 a = none
  ap : ∀ (i j : Nat) r r' a o, i ≠ j → env[i]? = some (.rs r) → env[j]? = some (.rs r') → Fs i a = some o → Fs j a = none
structure Sts (p : Pm) (G0 H0 : Hp) (env : List Sl) (σ : St) (G H : Hp) : Prop where
  gr : Gr G0 G H0 H
  len : σ.length = env.length
  va : ∀ (i : Nat) d, env[i]? = some (.va d) → ∃ v, σ[i]? = some (some v) ∧ Rp p G d v
  rs : ∃ Fs : Nat → Hp, RsOk p H0 env σ G H Fs

theorem set_get {α : Type} {l : List α} {i j : Nat} {x y : α} (h : (l.set i x)[j]? = some y) : (i = j ∧ y = x ∧ i < l.length) ∨ (i ≠ j ∧ l[j]? = some y) := by
  by_cases hj : i = j
  · subst hj
    have hi : i < l.length := by
      have := (List.getElem?_eq_some_iff.mp h).1
      simpa using this
    rw [List.getElem?_set_self hi] at h
    cases h
    exact .inl ⟨rfl, rfl, hi⟩
  · rw [List.getElem?_set_ne hj] at h
    exact .inr ⟨hj, h⟩

section
variable {p : Pm} {G0 H0 G H G' H' : Hp} {env env' : List Sl} {σ σ' : St} {Fs : Nat → Hp}
theorem RsOk.step (s : RsOk p H0 env σ G H Fs) (g : Gr G G' H H') : RsOk p H0 env σ G' H' Fs := by
  refine ⟨fun i r e => ?_, s.ap⟩
  obtain ⟨v, a1, a2, a3, a4⟩ := s.wh i r e
  refine ⟨v, a1, r.mono g.g a2, a3.trans g.h, fun a o h => ⟨?_, (a4 a o h).2⟩⟩
  cases q : G' a with
  | none => rfl
  | some u =>
    have := g.n a u q (a4 a o h).1
    rw [a3 a o h] at this; cases this
theorem RsOk.set_va {i : Nat} {d : D} {v : V} (s : RsOk p H0 env σ G H Fs) : RsOk p H0 (env.set i (.va d)) (σ.set i (some v)) G H Fs := by
  refine ⟨fun j r e => ?_, fun j k r r' a o n e e' => ?_⟩
  · rcases set_get e with ⟨_, q, _⟩ | ⟨hj, e⟩
    · cases q
    · rw [List.getElem?_set_ne hj]
      exact s.wh j r e
  · rcases set_get e with ⟨_, q, _⟩ | ⟨_, e⟩
    · cases q
    · rcases set_get e' with ⟨_, q, _⟩ | ⟨_, e'⟩
      · cases q
      · exact s.ap j k r r' a o n e e'
theorem RsOk.set_rs {i : Nat} {r : Rs} {v : V} {F : Hp} (s : RsOk p H0 env σ G H Fs) (hl : σ.length = env.length) (h : r.R p G v F) (hF : Same F H) (hg : ∀ a o, F a = some o → G a = none ∧ H0 a = none)
    (hd : ∀ j r' a o, i ≠ j → env[j]? = some (.rs r') → F a = some o → Fs j a = none) : RsOk p H0 (env.set i (.rs r)) (σ.set i (some v)) G H (fun j => if i = j then F else Fs j) := by
  refine ⟨fun j r' e => ?_, fun j k r1 r2 a o n e e' q => ?_⟩
  · rcases set_get e with ⟨rfl, q, hi⟩ | ⟨hj, e⟩
    · cases q
      refine ⟨v, by rw [List.getElem?_set_self (by rw [hl]; exact hi)], ?_⟩
      simp only [if_true]
      exact ⟨h, hF, hg⟩
    · rw [List.getElem?_set_ne hj]
      simp only [if_neg hj]
      exact s.wh j r' e
  · rcases set_get e with ⟨rfl, _, _⟩ | ⟨hj, e⟩
    · simp only [if_true] at q
      simp only [if_neg n]
      rcases set_get e' with ⟨z, _, _⟩ | ⟨hk, e'⟩
      · exact absurd z n
      · exact hd k r2 a o hk e' q
    · simp only [if_neg hj] at q
      rcases set_get e' with ⟨rfl, _, _⟩ | ⟨hk, e'⟩
      · simp only [if_true]
        cases z : F a with
        | none => rfl
        | some u =>
          have := hd j r1 a u hj e z
          rw [q] at this; cases this
      · simp only [if_neg hk]
        exact s.ap j k r1 r2 a o n e e' q
/-- the thing in slot i is written: F becomes F' -/
structure Wr (H F F' H' : Hp) : Prop where
  on : Same F' H'
  off : ∀ a, F a = none → F' a = none → H' a = H a
  new : ∀ a o, F' a = some o → F a = none → H a = none
theorem Wr.keep {H F F' H' X : Hp} (w : Wr H F F' H') (s : Same X H) (d : ∀ a o, X a = some o → F a = none) : Same X H' := fun a o e => by
  have h1 := d a o e
  cases q : F' a with
  | none => rw [w.off a h1 q]; exact s a o e
  | some u =>
    have := w.new a u q h1
    rw [s a o e] at this; cases this
theorem RsOk.write {i : Nat} {r r' : Rs} {v : V} {F' : Hp} (s : RsOk p H0 env σ G H Fs) (hl : σ.length = env.length) (sg : Same G H) (sh : Same H0 H) (e : env[i]? = some (.rs r)) (w : Wr H (Fs i) F' H') (h : r'.R p G v F') :
    RsOk p H0 (env.set i (.rs r')) (σ.set i (some v)) G H' (fun j => if i = j then F' else Fs j) := by
  obtain ⟨v0, a1, a2, a3, a4⟩ := s.wh i r e
  have free : ∀ {X : Hp}, Same X H → (∀ a o, Fs i a = some o → X a = none) → ∀ a o, F' a = some o → X a = none := fun {X} sx dx a o q => by
    cases z : Fs i a with
    | some u => exact dx a u z
    | none => exact sx.free (w.new a o q z)
  refine ⟨fun j r1 e1 => ?_, fun j k r1 r2 a o n e1 e2 q => ?_⟩
  · rcases set_get e1 with ⟨rfl, q, hi⟩ | ⟨hj, e1⟩
    · cases q
      refine ⟨v, by rw [List.getElem?_set_self (by rw [hl]; exact hi)], ?_⟩
      simp only [if_true]
      exact ⟨h, w.on, fun a o q => ⟨free sg (fun b u z => (a4 b u z).1) a o q, free sh (fun b u z => (a4 b u z).2) a o q⟩⟩
    · rw [List.getElem?_set_ne hj]
      simp only [if_neg hj]
      obtain ⟨v1, b1, b2, b3, b4⟩ := s.wh j r1 e1
      exact ⟨v1, b1, b2, w.keep b3 fun a o q => s.ap j i r1 r a o (Ne.symm hj) e1 e q, b4⟩
  · rcases set_get e1 with ⟨rfl, _, _⟩ | ⟨hj, e1⟩
    · simp only [if_true] at q
      simp only [if_neg n]
      rcases set_get e2 with ⟨z, _, _⟩ | ⟨hk, e2⟩
      · exact absurd z n
      · obtain ⟨_, _, _, b3, _⟩ := s.wh k r2 e2
        exact free b3 (fun b u z => s.ap i k r r2 b u hk e e2 z) a o q
    · simp only [if_neg hj] at q
      rcases set_get e2 with ⟨rfl, _, _⟩ | ⟨hk, e2⟩
      · simp only [if_true]
        obtain ⟨_, _, _, b3, _⟩ := s.wh j r1 e1
        cases z : F' a with
        | none => rfl
        | some u =>
          have := free b3 (fun b u z => s.ap i j r r1 b u hj e e1 z) a u z
          rw [q] at this; cases this
      · simp only [if_neg hk]
        exact s.ap j k r1 r2 a o n e1 e2 q
theorem Sts.step (s : Sts p G0 H0 env σ G H) (g : Gr G G' H H') : Sts p G0 H0 env σ G' H' := by
  obtain ⟨Fs, f⟩ := s.rs
  exact ⟨s.gr.trans g, s.len, fun i d e => (s.va i d e).imp fun v h => ⟨h.1, Rp.mono g.g _ h.2⟩, Fs, f.step g⟩
/-- more is forgotten -/
def leE : List Sl → List Sl → Prop
  | [], [] => True
  | x :: xs, y :: ys => (y = .fr ∨ x = y) ∧ leE xs ys
  | _, _ => False
theorem leE.get : ∀ {env env' : List Sl}, leE env env' → ∀ {i : Nat} {x : Sl}, env'[i]? = some x → x ≠ .fr → env[i]? = some x
  | [], [], _, _, _, e, _ => by simp at e
  | x :: xs, y :: ys, h, 0, z, e, n => by
    simp at e; subst e
    rcases h.1 with q | q
    · exact absurd q n
    · simp [q]
  | x :: xs, y :: ys, h, i + 1, z, e, n => by
    simp at e ⊢
    exact leE.get h.2 e n
theorem leE.length : ∀ {env env' : List Sl}, leE env env' → env.length = env'.length
  | [], [], _ => rfl
  | x :: xs, y :: ys, h => by simp [leE.length h.2]
theorem leE.refl : ∀ {env : List Sl}, leE env env
  | [] => trivial
  | _ :: _ => ⟨.inr rfl, leE.refl⟩
theorem Sts.le (s : Sts p G0 H0 env σ G H) (h : leE env env') : Sts p G0 H0 env' σ G H := by
  obtain ⟨Fs, f⟩ := s.rs
  exact ⟨s.gr, by rw [s.len, h.length], fun i d e => s.va i d (h.get e (by intro z; cases z)), Fs, fun i r e => f.wh i r (h.get e (by intro z; cases z)), fun i j r r' a o n e e' => f.ap i j r r' a o n (h.get e (by intro z; cases z)) (h.get e' (by intro z; cases z))⟩
theorem Sts.set_va {i : Nat} {d : D} {v : V} (s : Sts p G0 H0 env σ G H) (h : Rp p G d v) : Sts p G0 H0 (env.set i (.va d)) (σ.set i (some v)) G H := by
  obtain ⟨Fs, f⟩ := s.rs
  refine ⟨s.gr, by simp [s.len], fun j d' e => ?_, Fs, f.set_va⟩
  rcases set_get e with ⟨rfl, q, hi⟩ | ⟨hj, e⟩
  · cases q
    exact ⟨v, by rw [List.getElem?_set_self (by rw [s.len]; exact hi)], h⟩
  · rw [List.getElem?_set_ne hj]
    exact s.va j d' e
theorem va_set_rs {i : Nat} {r : Rs} {v : V} (va : ∀ (i : Nat) d, env[i]? = some (.va d) → ∃ v, σ[i]? = some (some v) ∧ Rp p G d v) : ∀ (j : Nat) d, (env.set i (.rs r))[j]? = some (.va d) → ∃ v', (σ.set i (some v))[j]? = some (some v') ∧ Rp p G d v' := fun j d' e => by
  rcases set_get e with ⟨rfl, q, hi⟩ | ⟨hj, e⟩
  · cases q
  · rw [List.getElem?_set_ne hj]
    exact va j d' e
/-- a new thing of one's own: F was not there at (G, H) -/
theorem Sts.set_rs {i : Nat} {r : Rs} {v : V} {F : Hp} (s : Sts p G0 H0 env σ G H) (g : Gr G G' H H') (h : r.R p G' v F) (hF : Same F H') (hn : ∀ a o, F a = some o → H a = none ∧ G' a = none) : Sts p G0 H0 (env.set i (.rs r)) (σ.set i (some v)) G' H' := by
  obtain ⟨Fs, f⟩ := s.rs
  refine ⟨s.gr.trans g, by simp [s.len], va_set_rs (s.step g).va, _, (f.step g).set_rs s.len h hF (fun a o q => ⟨(hn a o q).2, s.gr.h.free (hn a o q).1⟩) fun j r' a o _ e q => ?_⟩
  obtain ⟨_, _, _, b3, _⟩ := f.wh j r' e
  exact b3.free (hn a o q).1
theorem Sts.write {i : Nat} {r : Rs} {Q : Prop} (s : Sts p G0 H0 env σ G H) (e : env[i]? = some (.rs r))
    (k : ∀ v F, σ[i]? = some (some v) → r.R p G v F → Same F H → (∀ a o, F a = some o → G a = none ∧ H0 a = none) → (∀ r' v' F' H', Wr H F F' H' → r'.R p G v' F' → Sts p G0 H0 (env.set i (.rs r')) (σ.set i (some v')) G H') → Q) : Q := by
  obtain ⟨Fs, f⟩ := s.rs
  obtain ⟨v, a1, a2, a3, a4⟩ := f.wh i r e
  refine k v (Fs i) a1 a2 a3 a4 fun r' v' F' H' w h => ?_
  have sg := s.gr.s
  have sh := s.gr.h
  refine ⟨⟨s.gr.g, w.keep sg fun a o q => ?_, w.keep sh fun a o q => ?_, s.gr.n⟩, by simp [s.len], va_set_rs s.va, _, f.write s.len sg sh e w h⟩
  · cases z : Fs i a with
    | none => rfl
    | some u => rw [(a4 a u z).1] at q; cases q
  · cases z : Fs i a with
    | none => rfl
    | some u => rw [(a4 a u z).2] at q; cases q
/-- the thing in slot i is written, something new (over H) having come between -/
structure Wr2 (G1 H H1 F F' H' : Hp) : Prop where
  on : Same F' H'
  off : ∀ a, F a = none → F' a = none → H' a = H1 a
  new : ∀ a o, F' a = some o → F a = none → H a = none ∧ G1 a = none
theorem Sts.writeG {i : Nat} {r : Rs} {Q : Prop} {G1 H1 : Hp} (s : Sts p G0 H0 env σ G H) (g : Gr G G1 H H1) (e : env[i]? = some (.rs r))
    (k : ∀ v F, σ[i]? = some (some v) → r.R p G1 v F → Same F H → (∀ a o, F a = some o → G1 a = none ∧ H0 a = none) → (∀ r' v' F' H', Wr2 G1 H H1 F F' H' → r'.R p G1 v' F' → Sts p G0 H0 (env.set i (.rs r')) (σ.set i (some v')) G1 H') → Q) : Q := by
  obtain ⟨Fs, f⟩ := s.rs
  obtain ⟨v, a1, a2, a3, a4⟩ := f.wh i r e
  have f1 := f.step g
  have s1 := s.step g
  obtain ⟨v', b1, b2, b3, b4⟩ := f1.wh i r e
  rw [a1] at b1
  cases b1
  refine k v (Fs i) a1 b2 a3 b4 fun r' v' F' H' w h => ?_
  -- what stood at H, or is known, and is not of F, stays
  have keep : ∀ {X : Hp}, Same X H1 → (∀ a o, X a = some o → Fs i a = none) → (∀ a o, X a = some o → G1 a = none → H a = none → False) → Same X H' := fun {X} sx d1 d2 a o q => by
    have h1 := d1 a o q
    cases z : F' a with
    | none => rw [w.off a h1 z]; exact sx a o q
    | some u =>
      obtain ⟨c1, c2⟩ := w.new a u z h1
      exact (d2 a o q c2 c1).elim
  have dj : ∀ {X : Hp}, (∀ a o, X a = some o → Fs i a = none) → (∀ a o, X a = some o → G1 a = none → H a = none → False) → ∀ a o, F' a = some o → X a = none := fun {X} d1 d2 a o q => by
    cases z : X a with
    | none => rfl
    | some u =>
      obtain ⟨c1, c2⟩ := w.new a o q (d1 a u z)
      exact (d2 a u z c2 c1).elim
  have dG1 : ∀ a o, G1 a = some o → Fs i a = none := fun a o q => by
    cases z : Fs i a with
    | none => rfl
    | some u => rw [(b4 a u z).1] at q; cases q
  have dG2 : ∀ a o, G1 a = some o → G1 a = none → H a = none → False := fun a o q c _ => by rw [q] at c; cases c
  have dH1 : ∀ a o, H0 a = some o → Fs i a = none := fun a o q => by
    cases z : Fs i a with
    | none => rfl
    | some u => rw [(b4 a u z).2] at q; cases q
  have dH2 : ∀ a o, H0 a = some o → G1 a = none → H a = none → False := fun a o q _ c => by
    have := s.gr.h a o q
    rw [c] at this; cases this
  have dF1 : ∀ j r1, i ≠ j → env[j]? = some (.rs r1) → ∀ a o, Fs j a = some o → Fs i a = none := fun j r1 n ej a o q => f.ap j i r1 r a o (Ne.symm n) ej e q
  have dF2 : ∀ j r1, env[j]? = some (.rs r1) → ∀ a o, Fs j a = some o → G1 a = none → H a = none → False := fun j r1 ej a o q _ c => by
    obtain ⟨_, _, _, c3, _⟩ := f.wh j r1 ej
    have := c3 a o q
    rw [c] at this; cases this
  refine ⟨⟨s1.gr.g, keep s1.gr.s dG1 dG2, keep s1.gr.h dH1 dH2, s1.gr.n⟩, by simp [s.len], va_set_rs s1.va, fun j => if i = j then F' else Fs j, fun j r1 e1 => ?_, fun j l r1 r2 a o n e1 e2 q => ?_⟩
  · rcases set_get e1 with ⟨rfl, q, hi⟩ | ⟨hj, e1⟩
    · cases q
      refine ⟨v', by rw [List.getElem?_set_self (by rw [s.len]; exact hi)], ?_⟩
      simp only [if_true]
      exact ⟨h, w.on, fun a o q => ⟨dj dG1 dG2 a o q, dj dH1 dH2 a o q⟩⟩
    · rw [List.getElem?_set_ne hj]
      simp only [if_neg hj]
      obtain ⟨v1, c1, c2, c3, c4⟩ := f1.wh j r1 e1
      exact ⟨v1, c1, c2, keep c3 (dF1 j r1 hj e1) (dF2 j r1 e1), c4⟩
  · rcases set_get e1 with ⟨rfl, _, _⟩ | ⟨hj, e1⟩
    · simp only [if_true] at q
      simp only [if_neg n]
      rcases set_get e2 with ⟨z, _, _⟩ | ⟨hk, e2⟩
      · exact absurd z n
      · exact dj (dF1 l r2 hk e2) (dF2 l r2 e2) a o q
    · simp only [if_neg hj] at q
      rcases set_get e2 with ⟨rfl, _, _⟩ | ⟨hk, e2⟩
      · simp only [if_true]
        cases z : F' a with
        | none => rfl
        | some u =>
          have := dj (dF1 j r1 hj e1) (dF2 j r1 e1) a u z
          rw [q] at this; cases this
      · simp only [if_neg hk]
        exact f.ap j l r1 r2 a o n e1 e2 q
/-- the list in slot i, as it stands, is given over -/
theorem Sts.freeze {i : Nat} {ds : List D} {Q : Prop} (s : Sts p G0 H0 env σ G H) (e : env[i]? = some (.ow ds)) (k : ∀ G', Same G G' → Sts p G0 H0 (env.set i (.va (.lst ds))) σ G' H → Q) : Q := by
  obtain ⟨Fs, f⟩ := s.rs
  obtain ⟨v, a1, ⟨l, vs, rfl, eF, h2⟩, a3, a4⟩ := f.wh i _ e
  have hl : Fs i l = some (.lst vs) := by rw [eF]; exact upd_same
  have hH := a3 _ _ hl
  obtain ⟨hG, hH0⟩ := a4 _ _ hl
  have sg : Same G (upd G l (.lst vs)) := same_new hG
  refine k _ sg ⟨s.gr.take hH0 hH hG, by simp [s.len], fun j d q => ?_, Fs, fun j r q => ?_, fun j k r r' a o n q q' => ?_⟩
  · rcases set_get q with ⟨rfl, q, hi⟩ | ⟨hj, q⟩
    · cases q
      exact ⟨.ref l, a1, l, vs, rfl, upd_same, RpA.mono sg _ h2⟩
    · exact (s.va j d q).imp fun v h => ⟨h.1, Rp.mono sg _ h.2⟩
  · rcases set_get q with ⟨rfl, q, hi⟩ | ⟨hj, q⟩
    · cases q
    · obtain ⟨v, b1, b2, b3, b4⟩ := f.wh j r q
      refine ⟨v, b1, r.mono sg b2, b3, fun a o z => ⟨?_, (b4 a o z).2⟩⟩
      have c : a ≠ l := fun c => by
        subst c
        have := f.ap i j _ r a _ hj e q hl
        rw [z] at this; cases this
      rw [upd_ne c]
      exact (b4 a o z).1
  · rcases set_get q with ⟨_, q, _⟩ | ⟨_, q⟩
    · cases q
    · rcases set_get q' with ⟨_, q', _⟩ | ⟨_, q'⟩
      · cases q'
      · exact f.ap j k r r' a o n q q'
end
end PU

set_option Elab.async false
set_option maxRecDepth 100000
set_option linter.all false
/-! PU2: expressions. -/
namespace PU
open PySem L2
open Enc

/-! ### results -/
def Res (p : Pm) (nw : Bool) (H G' H' : Hp) (d : D) (v : V) : Prop := match nw with
  | false => Rp p G' d v
  | true => ∃ l vs ds, v = .ref l ∧ d = .lst ds ∧ H l = none ∧ G' l = none ∧ H' l = some (.lst vs) ∧ RpA p G' ds vs
/-- te gives m: whatever m holds, te gives a value that stands for it -/
def Ev (p : Pm) (nw : Bool) (te : TE) (env : List Sl) {α : Type} [Enc α] (m : Option α) : Prop :=
  ∀ x, m = some x → ∀ G0 H0 σ G H, Sts p G0 H0 env σ G H → ∀ Q : VK, (∀ v G' H', Gr G G' H H' → Res p nw H G' H' (enc x) v → Q v H') → te σ H Q
def EvT (p : Pm) (tt : TT) (env : List Sl) (m : Option Bool) : Prop :=
  ∀ x, m = some x → ∀ G0 H0 σ G H, Sts p G0 H0 env σ G H → ∀ Q : Bool → Hp → Prop, (∀ G' H', Gr G G' H H' → Q x H') → tt σ H Q
def EvA (p : Pm) (ta : TA) (env : List Sl) (m : Option (List D)) : Prop :=
  ∀ x, m = some x → ∀ G0 H0 σ G H, Sts p G0 H0 env σ G H → ∀ Q : List V → Hp → Prop, (∀ vs G' H', Gr G G' H H' → RpA p G' x vs → Q vs H') → ta σ H Q
/-- a two-place rule on values -/
def RvOp (p : Pm) (nw : Bool) (r : R2) (d e : D) {α : Type} [Enc α] (m : Option α) : Prop :=
  ∀ z, m = some z → ∀ G H v w, Same G H → Rp p G d v → Rp p G e w → ∀ Q : VK, (∀ u G' H', Gr G G' H H' → Res p nw H G' H' (enc z) u → Q u H') → r v w H Q
/-- a call's rule on values -/
def RvC (p : Pm) (nw : Bool) (r : List V → Hp → VK → Prop) (ds : List D) {α : Type} [Enc α] (m : Option α) : Prop :=
  ∀ z, m = some z → ∀ G H vs, Same G H → RpA p G ds vs → ∀ Q : VK, (∀ u G' H', Gr G G' H H' → Res p nw H G' H' (enc z) u → Q u H') → r vs H Q

theorem bind_some {α β : Type} {m : Option α} {f : α → Option β} {y : β} (h : m.bind f = some y) : ∃ x, m = some x ∧ f x = some y := by
  cases m with
  | none => cases h
  | some x => exact ⟨x, rfl, h⟩

section
variable {p : Pm} {env : List Sl} {ta tb tc te : TE} {α β γ δ : Type} [Enc α] [Enc β] [Enc γ] [Enc δ]
theorem Ev.weak {m : Option α} (h : Ev p true te env m) : Ev p false te env m := fun x e G0 H0 σ G H s Q k =>
  h x e G0 H0 σ G H s Q fun v G' H' g r => by
    obtain ⟨l, vs, ds, rfl, e2, h1, h2, h3, h4⟩ := r
    refine k _ _ H' (g.take h1 h3 h2) ?_
    rw [e2]
    exact ⟨l, vs, rfl, upd_same, RpA.mono (same_new h2) _ h4⟩
theorem ev_var {i : Nat} {x : α} (h : env[i]? = some (.va (enc x))) : Ev p false (tVar i) env (some x) := fun y e G0 H0 σ G H s Q k => by
  cases e
  obtain ⟨v, h1, h2⟩ := s.va i _ h
  exact ⟨v, h1, k v G H (.refl s.gr.s) h2⟩
theorem ev_c {x : α} {v : V} (h : ∀ G, Rp p G (enc x) v) : Ev p false (tC v) env (some x) := fun y e G0 H0 σ G H s Q k => by
  cases e
  exact k v G H (.refl s.gr.s) (h G)
theorem ev_int {i : Int} : Ev p false (tC (.int i)) env (some i) := ev_c fun _ => rfl
theorem ev_bl {i : Bool} : Ev p false (tC (.bl i)) env (some i) := ev_c fun _ => rfl
theorem ev_non : Ev p false (tC .non) env (some ()) := ev_c fun _ => rfl
theorem ev_nonO : Ev p false (tC .non) env (some (none : Option α)) := ev_c fun _ => rfl
theorem ev_str {x : Str} : Ev p false (tC (.str x)) env (some (D.str x)) := ev_c fun _ => rfl
/-- a value is also this or none -/
theorem ev_some {nw : Bool} {m : Option α} (h : Ev p nw te env m) : Ev p nw te env (m.bind fun x => some (some x)) := fun y e => by
  obtain ⟨x, e1, e2⟩ := bind_some e
  cases e2
  exact h x e1
/-- this, and not none -/
theorem ev_un {nw : Bool} {m : Option (Option α)} (h : Ev p nw te env m) : Ev p nw te env (m.bind fun x => x) := fun y e => by
  obtain ⟨x, e1, e2⟩ := bind_some e
  cases e2
  exact h _ e1
theorem ev_is {nw : Bool} {m m' : Option α} (h : Ev p nw te env m) (e : m = m') : Ev p nw te env m' := e ▸ h
theorem ev_op {nw : Bool} {r : R2} {ma : Option α} {mb : Option β} {f : α → β → Option γ} (ha : Ev p false ta env ma) (hb : Ev p false tb env mb) (hr : ∀ x y, RvOp p nw r (enc x) (enc y) (f x y)) :
    Ev p nw (tOp r ta tb) env (ma.bind fun x => mb.bind fun y => f x y) := fun z e G0 H0 σ G H s Q k => by
  obtain ⟨x, e1, e⟩ := bind_some e
  obtain ⟨y, e2, e⟩ := bind_some e
  refine ha x e1 G0 H0 σ G H s _ fun v G1 H1 g1 r1 => ?_
  refine hb y e2 G0 H0 σ G1 H1 (s.step g1) _ fun w G2 H2 g2 r2 => ?_
  refine hr x y z e G2 H2 v w g2.s (Rp.mono g2.g _ r1) r2 Q fun u G3 H3 g3 r3 => ?_
  refine k u G3 H3 ((g1.trans g2).trans g3) ?_
  cases nw with
  | false => exact r3
  | true =>
    obtain ⟨l, vs, ds, q1, q2, q3, q4⟩ := r3
    exact ⟨l, vs, ds, q1, q2, (g1.trans g2).h.free q3, q4⟩
theorem ev_tun {r : V → Hp → VK → Prop} {ma : Option α} {f : α → Option γ} (ha : Ev p false ta env ma)
    (hr : ∀ x z, f x = some z → ∀ G H v, Same G H → Rp p G (enc x) v → ∀ Q : VK, (∀ u G' H', Gr G G' H H' → Rp p G' (enc z) u → Q u H') → r v H Q) :
    Ev p false (tUn r ta) env (ma.bind fun x => f x) := fun z e G0 H0 σ G H s Q k => by
  obtain ⟨x, e1, e⟩ := bind_some e
  refine ha x e1 G0 H0 σ G H s _ fun v G1 H1 g1 r1 => ?_
  exact hr x z e G1 H1 v g1.s r1 Q fun u G2 H2 g2 r2 => k u G2 H2 (g1.trans g2) r2

/-! ### ints -/
def mul? (i j : Int) : Option Int := if i.natAbs < 2 ^ 4000 ∧ j.natAbs < 2 ^ 4000 then some (i * j) else none
def fdiv? (i j : Int) : Option Int := if j ≠ 0 ∧ j.natAbs < 1073741824 then some (i.fdiv j) else none
def fmod? (i j : Int) : Option Int := if j ≠ 0 then some (i.fmod j) else none
def pow? (i j : Int) : Option Int := if 0 ≤ j ∧ j ≤ 1000000 ∧ i.natAbs < 2 ^ 64 then some (i ^ j.toNat) else none
theorem rv_II {h : Int → Int → Int} {i j : Int} : RvOp p false (rI0 fun i j => .int (h i j)) (enc i) (enc j) (some (h i j)) := by
  intro z ez G H v w s rv rw' Q k
  cases ez
  cases (show v = .int i from rv)
  cases (show w = .int j from rw')
  exact ⟨i, j, rfl, rfl, k _ G H (.refl s) rfl⟩
theorem rv_IB {h : Int → Int → Bool} {i j : Int} : RvOp p false (rI0 fun i j => .bl (h i j)) (enc i) (enc j) (some (h i j)) := by
  intro z ez G H v w s rv rw' Q k
  cases ez
  cases (show v = .int i from rv)
  cases (show w = .int j from rw')
  exact ⟨i, j, rfl, rfl, k _ G H (.refl s) rfl⟩
theorem rv_I {C : Int → Int → Prop} {g : Int → Int → V} {h : Int → Int → Option Int} (e : ∀ i j z, h i j = some z → C i j ∧ g i j = .int z) {i j : Int} : RvOp p false (rI C g) (enc i) (enc j) (h i j) := by
  intro z ez G H v w s rv rw' Q k
  cases (show v = .int i from rv)
  cases (show w = .int j from rw')
  obtain ⟨h1, h2⟩ := e i j z ez
  refine ⟨i, j, rfl, rfl, h1, k _ G H (.refl s) ?_⟩
  exact h2
variable {mi mj : Option Int}
theorem ev_add (ha : Ev p false ta env mi) (hb : Ev p false tb env mj) : Ev p false (tOp (rI0 fun i j => .int (i + j)) ta tb) env (mi.bind fun i => mj.bind fun j => some (i + j)) := ev_op ha hb fun _ _ => rv_II (h := fun i j => i + j)
theorem ev_sub (ha : Ev p false ta env mi) (hb : Ev p false tb env mj) : Ev p false (tOp (rI0 fun i j => .int (i - j)) ta tb) env (mi.bind fun i => mj.bind fun j => some (i - j)) := ev_op ha hb fun _ _ => rv_II (h := fun i j => i - j)
theorem ev_mul (ha : Ev p false ta env mi) (hb : Ev p false tb env mj) : Ev p false (tOp (rI CMulW fun i j => .int (i * j)) ta tb) env (mi.bind fun i => mj.bind fun j => mul? i j) := ev_op ha hb fun _ _ => rv_I (h := mul?) fun i j z e => by
  unfold mul? at e
  split at e
  · rename_i c
    cases e
    exact ⟨wide_mul c.1 c.2 (by decide) (by decide) (by decide), rfl⟩
  · cases e
theorem ev_fdiv (ha : Ev p false ta env mi) (hb : Ev p false tb env mj) : Ev p false (tOp (rI CDivN fun i j => .int (i.fdiv j)) ta tb) env (mi.bind fun i => mj.bind fun j => fdiv? i j) := ev_op ha hb fun _ _ => rv_I (h := fdiv?) fun i j z e => by
  unfold fdiv? at e
  split at e
  · rename_i c
    cases e
    exact ⟨c, rfl⟩
  · cases e
theorem ev_fmod (ha : Ev p false ta env mi) (hb : Ev p false tb env mj) : Ev p false (tOp (rI (fun _ j => j ≠ 0) fun i j => .int (i.fmod j)) ta tb) env (mi.bind fun i => mj.bind fun j => fmod? i j) := ev_op ha hb fun _ _ => rv_I (h := fmod?) fun i j z e => by
  unfold fmod? at e
  split at e
  · rename_i c
    cases e
    exact ⟨c, rfl⟩
  · cases e
theorem ev_pow (ha : Ev p false ta env mi) (hb : Ev p false tb env mj) : Ev p false (tOp (rI CPow fun i j => .int (i ^ j.toNat)) ta tb) env (mi.bind fun i => mj.bind fun j => pow? i j) := ev_op ha hb fun _ _ => rv_I (h := pow?) fun i j z e => by
  unfold pow? at e
  split at e
  · rename_i c
    cases e
    exact ⟨c, rfl⟩
  · cases e
theorem ev_lt (ha : Ev p false ta env mi) (hb : Ev p false tb env mj) : Ev p false (tOp (rI0 fun i j => .bl (decide (i < j))) ta tb) env (mi.bind fun i => mj.bind fun j => some (decide (i < j))) := ev_op ha hb fun _ _ => rv_IB (h := fun i j => decide (i < j))
theorem ev_le (ha : Ev p false ta env mi) (hb : Ev p false tb env mj) : Ev p false (tOp (rI0 fun i j => .bl (decide (i ≤ j))) ta tb) env (mi.bind fun i => mj.bind fun j => some (decide (i ≤ j))) := ev_op ha hb fun _ _ => rv_IB (h := fun i j => decide (i ≤ j))
theorem ev_gt (ha : Ev p false ta env mi) (hb : Ev p false tb env mj) : Ev p false (tOp (rI0 fun i j => .bl (decide (j < i))) ta tb) env (mi.bind fun i => mj.bind fun j => some (decide (j < i))) := ev_op ha hb fun _ _ => rv_IB (h := fun i j => decide (j < i))
theorem ev_ge (ha : Ev p false ta env mi) (hb : Ev p false tb env mj) : Ev p false (tOp (rI0 fun i j => .bl (decide (j ≤ i))) ta tb) env (mi.bind fun i => mj.bind fun j => some (decide (j ≤ i))) := ev_op ha hb fun _ _ => rv_IB (h := fun i j => decide (j ≤ i))
theorem ev_neg (ha : Ev p false ta env mi) : Ev p false (tUn (rU fun i => .int (-i)) ta) env (mi.bind fun i => some (-i)) := ev_tun ha fun i z e G H v s r Q k => by
  cases e
  cases (show v = .int i from r)
  exact ⟨i, rfl, k _ G H (.refl s) rfl⟩
/-- a < b < c and its like -/
theorem ev_chain {g g' : Int → Int → V} {h h' : Int → Int → Bool} {ml : Option Int} (e : ∀ i j, g i j = .bl (h i j)) (e' : ∀ i j, g' i j = .bl (h' i j)) (ha : Ev p false ta env mi) (hb : Ev p false tb env mj) (hc : Ev p false tc env ml) :
    Ev p false (tChain (rI0 g) (rI0 g') ta tb tc) env (mi.bind fun i => mj.bind fun j => if h i j = true then ml.bind fun l => some (h' j l) else some false) := fun z ez G0 H0 σ G H s Q k => by
  obtain ⟨i, e1, ez⟩ := bind_some ez
  obtain ⟨j, e2, ez⟩ := bind_some ez
  refine ha i e1 G0 H0 σ G H s _ fun v G1 H1 g1 r1 => ?_
  refine hb j e2 G0 H0 σ G1 H1 (s.step g1) _ fun w G2 H2 g2 r2 => ?_
  cases (show v = .int i from r1)
  cases (show w = .int j from r2)
  refine ⟨i, j, rfl, rfl, h i j, e i j, ?_⟩
  by_cases c : h i j = true
  · rw [if_pos c] at ez ⊢
    obtain ⟨l, e3, ez⟩ := bind_some ez
    cases ez
    refine hc l e3 G0 H0 σ G2 H2 ((s.step g1).step g2) _ fun u G3 H3 g3 r3 => ?_
    cases (show u = .int l from r3)
    refine ⟨j, l, rfl, rfl, ?_⟩
    refine k _ G3 H3 ((g1.trans g2).trans g3) ?_
    exact e' j l
  · rw [if_neg c] at ez ⊢
    cases ez
    exact k _ G2 H2 (g1.trans g2) rfl

/-! ### tests -/
theorem et_test {m : Option Bool} (h : Ev p false te env m) : EvT p (tTest te) env m := fun x e G0 H0 σ G H s Q k =>
  h x e G0 H0 σ G H s _ fun v G' H' g r => ⟨x, r, k G' H' g⟩
theorem et_B {m : Option Bool} (h : Ev p false te env m) : EvT p (tB te) env m := fun x e G0 H0 σ G H s Q k =>
  h x e G0 H0 σ G H s _ fun v G' H' g r => ⟨x, r, k G' H' g⟩
variable {t u : TT} {m1 m2 : Option Bool}
theorem et_and (h1 : EvT p t env m1) (h2 : EvT p u env m2) : EvT p (tAnd t u) env (m1.bind fun a => if a = true then m2 else some false) := fun x e G0 H0 σ G H s Q k => by
  obtain ⟨a, e1, e⟩ := bind_some e
  refine h1 a e1 G0 H0 σ G H s _ fun G1 H1 g1 => ?_
  cases a with
  | true => exact h2 x e G0 H0 σ G1 H1 (s.step g1) _ fun G2 H2 g2 => k G2 H2 (g1.trans g2)
  | false =>
    cases e
    exact k G1 H1 g1
theorem et_or (h1 : EvT p t env m1) (h2 : EvT p u env m2) : EvT p (tOr t u) env (m1.bind fun a => if a = true then some true else m2) := fun x e G0 H0 σ G H s Q k => by
  obtain ⟨a, e1, e⟩ := bind_some e
  refine h1 a e1 G0 H0 σ G H s _ fun G1 H1 g1 => ?_
  cases a with
  | false => exact h2 x e G0 H0 σ G1 H1 (s.step g1) _ fun G2 H2 g2 => k G2 H2 (g1.trans g2)
  | true =>
    cases e
    exact k G1 H1 g1
theorem et_not (h1 : EvT p t env m1) : EvT p (tNot t) env (m1.bind fun a => some (!a)) := fun x e G0 H0 σ G H s Q k => by
  obtain ⟨a, e1, e⟩ := bind_some e
  cases e
  exact h1 a e1 G0 H0 σ G H s _ fun G1 H1 g1 => k G1 H1 g1
theorem ev_and (h1 : Ev p false ta env m1) (h2 : Ev p false tb env m2) : Ev p false (tAndV ta tb) env (m1.bind fun a => if a = true then m2 else some false) := fun x e G0 H0 σ G H s Q k => by
  obtain ⟨a, e1, e⟩ := bind_some e
  refine h1 a e1 G0 H0 σ G H s _ fun v G1 H1 g1 r1 => ⟨a, r1, ?_⟩
  cases a with
  | true => exact h2 x e G0 H0 σ G1 H1 (s.step g1) _ fun v G2 H2 g2 r2 => k v G2 H2 (g1.trans g2) r2
  | false =>
    cases e
    exact k _ G1 H1 g1 rfl
theorem ev_or (h1 : Ev p false ta env m1) (h2 : Ev p false tb env m2) : Ev p false (tOrV ta tb) env (m1.bind fun a => if a = true then some true else m2) := fun x e G0 H0 σ G H s Q k => by
  obtain ⟨a, e1, e⟩ := bind_some e
  refine h1 a e1 G0 H0 σ G H s _ fun v G1 H1 g1 r1 => ⟨a, r1, ?_⟩
  cases a with
  | false => exact h2 x e G0 H0 σ G1 H1 (s.step g1) _ fun v G2 H2 g2 r2 => k v G2 H2 (g1.trans g2) r2
  | true =>
    cases e
    exact k _ G1 H1 g1 rfl
theorem ev_not (h1 : Ev p false ta env m1) : Ev p false (tNotV ta) env (m1.bind fun a => some (!a)) := fun x e G0 H0 σ G H s Q k => by
  obtain ⟨a, e1, e⟩ := bind_some e
  cases e
  exact h1 a e1 G0 H0 σ G H s _ fun v G1 H1 g1 r1 => ⟨a, r1, k _ G1 H1 g1 rfl⟩
theorem ev_if {nw : Bool} {ma mb : Option α} (h : EvT p t env m1) (h1 : Ev p nw ta env ma) (h2 : Ev p nw tb env mb) : Ev p nw (tIf t ta tb) env (m1.bind fun c => if c = true then ma else mb) := fun x e G0 H0 σ G H s Q k => by
  obtain ⟨c, e1, e⟩ := bind_some e
  refine h c e1 G0 H0 σ G H s _ fun G1 H1 g1 => ?_
  have fin : ∀ {w : Option α} {tw : TE}, Ev p nw tw env w → w = some x → tw σ H1 Q := fun hw ew => hw x ew G0 H0 σ G1 H1 (s.step g1) _ fun v G2 H2 g2 r2 => by
    refine k v G2 H2 (g1.trans g2) ?_
    cases nw with
    | false => exact r2
    | true =>
      obtain ⟨l, vs, ds, q1, q2, q3, q4⟩ := r2
      exact ⟨l, vs, ds, q1, q2, g1.h.free q3, q4⟩
  cases c with
  | true => exact fin h1 e
  | false => exact fin h2 e
/-- never None -/
class Nn (α : Type) [Enc α] : Prop where
  nn : ∀ {p : Pm} {G : Hp} {x : α} {v : V}, Rp p G (enc x) v → v ≠ .non
instance : Nn Int := ⟨fun h e => by rw [show _ = V.int _ from h] at e; cases e⟩
instance : Nn Bool := ⟨fun h e => by rw [show _ = V.bl _ from h] at e; cases e⟩
instance {α : Type} [Enc α] : Nn (List α) := ⟨fun h e => by
  obtain ⟨a, xs, h1, _⟩ := h
  rw [h1] at e; cases e⟩
instance {α β : Type} [Enc α] [Enc β] : Nn (α × β) := ⟨fun h e => by
  obtain ⟨a, xs, h1, _⟩ := h
  rw [h1] at e; cases e⟩
theorem ev_isN [Nn α] {ma : Option (Option α)} (h : Ev p false ta env ma) :
    Ev p false (tOp (fun x y H Q => y = .non ∧ Q (.bl (decide (x = .non))) H) ta (tC .non)) env (ma.bind fun x => some x.isNone) := fun z e G0 H0 σ G H s Q k => by
  obtain ⟨x, e1, e⟩ := bind_some e
  cases e
  refine h x e1 G0 H0 σ G H s _ fun v G1 H1 g1 r1 => ⟨rfl, k _ G1 H1 g1 ?_⟩
  cases x with
  | none =>
    cases (show v = .non from r1)
    rfl
  | some y =>
    show V.bl (decide (v = .non)) = .bl false
    rw [decide_eq_false (Nn.nn (x := y) r1)]
theorem ev_notN [Nn α] {ma : Option (Option α)} (h : Ev p false ta env ma) :
    Ev p false (tOp (fun x y H Q => y = .non ∧ Q (.bl (!decide (x = .non))) H) ta (tC .non)) env (ma.bind fun x => some (!x.isNone)) := fun z e G0 H0 σ G H s Q k => by
  obtain ⟨x, e1, e⟩ := bind_some e
  cases e
  refine h x e1 G0 H0 σ G H s _ fun v G1 H1 g1 r1 => ⟨rfl, k _ G1 H1 g1 ?_⟩
  cases x with
  | none =>
    cases (show v = .non from r1)
    rfl
  | some y =>
    show V.bl (!decide (v = .non)) = .bl true
    rw [decide_eq_false (Nn.nn (x := y) r1)]
    rfl

/-! ### args, displays -/
theorem ea_nil : EvA p tNil env (some []) := fun x e G0 H0 σ G H s Q k => by
  cases e
  exact k [] G H (.refl s.gr.s) rfl
theorem ea_cons {ma : Option α} {ms : Option (List D)} {tr : TA} (h : Ev p false ta env ma) (hr : EvA p tr env ms) : EvA p (tCons ta tr) env (ma.bind fun x => ms.bind fun ds => some (enc x :: ds)) := fun z e G0 H0 σ G H s Q k => by
  obtain ⟨x, e1, e⟩ := bind_some e
  obtain ⟨ds, e2, e⟩ := bind_some e
  cases e
  refine h x e1 G0 H0 σ G H s _ fun v G1 H1 g1 r1 => ?_
  exact hr ds e2 G0 H0 σ G1 H1 (s.step g1) _ fun vs G2 H2 g2 r2 => k _ G2 H2 (g1.trans g2) ⟨v, vs, rfl, Rp.mono g2.g _ r1, r2⟩
/-- args of one sort, n of them -/
def EvS (p : Pm) (n : Nat) (ta : TA) (env : List Sl) {α : Type} [Enc α] (m : Option (List α)) : Prop := EvA p ta env (m.bind fun xs => some (xs.map enc)) ∧ ∀ xs, m = some xs → xs.length = n
theorem es_nil : EvS p 0 tNil env (some ([] : List α)) := ⟨ea_nil, fun xs e => by cases e; rfl⟩
theorem es_cons {n : Nat} {ma : Option α} {ms : Option (List α)} {tr : TA} (h : Ev p false ta env ma) (hr : EvS p n tr env ms) : EvS p (n + 1) (tCons ta tr) env (ma.bind fun x => ms.bind fun xs => some (x :: xs)) := by
  refine ⟨fun z e => ea_cons h hr.1 z ?_, fun xs e => ?_⟩
  · obtain ⟨xs, e1, e⟩ := bind_some e
    obtain ⟨x, e2, e1⟩ := bind_some e1
    obtain ⟨ys, e3, e1⟩ := bind_some e1
    cases e1
    cases e
    rw [e2, e3]; rfl
  · obtain ⟨x, e2, e1⟩ := bind_some e
    obtain ⟨ys, e3, e1⟩ := bind_some e1
    cases e1
    simp [hr.2 ys e3]
/-- a list of many sorts -/
theorem es_consD {n : Nat} {ma : Option α} {ms : Option (List D)} {tr : TA} (h : Ev p false ta env ma) (hr : EvS p n tr env ms) : EvS p (n + 1) (tCons ta tr) env (ma.bind fun x => ms.bind fun xs => some (enc x :: xs)) := by
  refine ⟨fun z e => ea_cons h hr.1 z ?_, fun xs e => ?_⟩
  · obtain ⟨xs, e1, e⟩ := bind_some e
    obtain ⟨x, e2, e1⟩ := bind_some e1
    obtain ⟨ys, e3, e1⟩ := bind_some e1
    cases e1
    cases e
    rw [e2, e3]; rfl
  · obtain ⟨x, e2, e1⟩ := bind_some e
    obtain ⟨ys, e3, e1⟩ := bind_some e1
    cases e1
    simp [hr.2 ys e3]
theorem sz_of {n : Nat} (h : n ≤ 100000) : n ≤ sizeLine := Nat.le_trans h (by decide)
theorem ev_lst {n : Nat} {ta : TA} {m : Option (List α)} (h : EvS p n ta env m) (hn : n ≤ 100000 := by decide) : Ev p true (tLst ta) env m := fun z e G0 H0 σ G H s Q k => by
  refine h.1 (z.map enc) (by rw [e]; rfl) G0 H0 σ G H s _ fun vs G1 H1 g1 r1 => ⟨?_, fun l hl => ?_⟩
  · rw [← r1.length, List.length_map, h.2 z e]
    exact sz_of hn
  · exact k _ G1 _ (g1.trans (.own g1.s hl)) ⟨l, vs, z.map enc, rfl, rfl, g1.h.free hl, g1.s.free hl, upd_same, r1⟩
/-- a tuple read as a list -/
structure Tu (α : Type) where
  xs : List α
instance {α : Type} [Enc α] : Enc (Tu α) := ⟨fun t => .tup (t.xs.map enc)⟩
theorem ev_tupH {n : Nat} {ta : TA} {m : Option (List α)} (h : EvS p n ta env m) (hn : n ≤ 100000 := by decide) : Ev p false (tTup ta) env (m.bind fun xs => some (Tu.mk xs)) := fun z e G0 H0 σ G H s Q k => by
  obtain ⟨xs, e1, e⟩ := bind_some e
  cases e
  refine h.1 (xs.map enc) (by rw [e1]; rfl) G0 H0 σ G H s _ fun vs G1 H1 g1 r1 => ⟨?_, fun l hl => ?_⟩
  · rw [← r1.length, List.length_map, h.2 xs e1]
    exact sz_of hn
  · exact k _ _ _ (g1.trans (.new g1.s hl)) ⟨l, vs, rfl, upd_same, RpA.mono (same_new (g1.s.free hl)) _ r1⟩
theorem ev_tup2 {ma : Option α} {mb : Option β} (ha : Ev p false ta env ma) (hb : Ev p false tb env mb) : Ev p false (tTup (tCons ta (tCons tb tNil))) env (ma.bind fun x => mb.bind fun y => some (x, y)) := fun z e G0 H0 σ G H s Q k => by
  obtain ⟨x, e1, e⟩ := bind_some e
  obtain ⟨y, e2, e⟩ := bind_some e
  cases e
  refine ha x e1 G0 H0 σ G H s _ fun v G1 H1 g1 r1 => hb y e2 G0 H0 σ G1 H1 (s.step g1) _ fun w G2 H2 g2 r2 => ⟨by show 2 ≤ sizeLine; decide, fun l hl => ?_⟩
  have n2 := same_new (o := .tup [v, w]) (g2.s.free hl)
  exact k _ _ _ ((g1.trans g2).trans (.new g2.s hl)) ⟨l, [v, w], rfl, upd_same, ⟨v, [w], rfl, Rp.mono (g2.g.trans n2) _ r1, w, [], rfl, Rp.mono n2 _ r2, rfl⟩⟩

/-! ### places, slices, sums of lists -/
theorem atI_map {xs : List α} {vs : List V} {G : Hp} {i : Int} {x : α} (r : RpA p G (xs.map enc) vs) (h : atI xs i = some x) : ∃ v, atI vs i = some v ∧ Rp p G (enc x) v := by
  have hl : xs.length = vs.length := by rw [← r.length, List.length_map]
  unfold atI at h ⊢
  rw [← hl]
  cases e : ixN xs.length i with
  | none => rw [e] at h; cases h
  | some j =>
    rw [e] at h
    have h : xs[j]? = some x := h
    obtain ⟨v, h1, h2⟩ := r.get (i := j) (d := enc x) (by rw [List.getElem?_map, h]; rfl)
    exact ⟨v, h1, h2⟩
theorem ev_ixL {ma : Option (List α)} (ha : Ev p false ta env ma) (hb : Ev p false tb env mi) : Ev p false (tOp (rIxL p.K) ta tb) env (ma.bind fun xs => mi.bind fun i => atI xs i) := ev_op ha hb fun xs i => by
  intro z e G H v w s rv rw' Q k
  obtain ⟨a, vs, rfl, h1, h2⟩ := rv
  cases (show w = .int i from rw')
  obtain ⟨u, h3, h4⟩ := atI_map h2 e
  exact ⟨a, vs, i, u, rfl, rfl, .of (s _ _ h1), h3, k u G H (.refl s) h4⟩
theorem ev_ixT {ma : Option (Tu α)} (ha : Ev p false ta env ma) (hb : Ev p false tb env mi) : Ev p false (tOp (rIxT p.K) ta tb) env (ma.bind fun xs => mi.bind fun i => atI xs.xs i) := ev_op ha hb fun xs i => by
  intro z e G H v w s rv rw' Q k
  obtain ⟨a, vs, rfl, h1, h2⟩ := rv
  cases (show w = .int i from rw')
  obtain ⟨u, h3, h4⟩ := atI_map h2 e
  exact ⟨a, vs, i, u, rfl, rfl, .of (s _ _ h1), h3, k u G H (.refl s) h4⟩
theorem ev_fst {ma : Option (α × β)} (ha : Ev p false ta env ma) : Ev p false (tOp (rIxT p.K) ta (tC (.int 0))) env (ma.bind fun x => some x.1) := fun z e G0 H0 σ G H s Q k => by
  obtain ⟨x, e1, e⟩ := bind_some e
  cases e
  refine ha x e1 G0 H0 σ G H s _ fun v G1 H1 g1 r1 => ?_
  obtain ⟨a, vs, rfl, h1, v1, vs1, rfl, h2, v2, vs2, rfl, h3, rfl⟩ := r1
  exact ⟨a, [v1, v2], 0, v1, rfl, rfl, .of (g1.s _ _ h1), rfl, k _ G1 H1 g1 h2⟩
theorem ev_snd {ma : Option (α × β)} (ha : Ev p false ta env ma) : Ev p false (tOp (rIxT p.K) ta (tC (.int 1))) env (ma.bind fun x => some x.2) := fun z e G0 H0 σ G H s Q k => by
  obtain ⟨x, e1, e⟩ := bind_some e
  cases e
  refine ha x e1 G0 H0 σ G H s _ fun v G1 H1 g1 r1 => ?_
  obtain ⟨a, vs, rfl, h1, v1, vs1, rfl, h2, v2, vs2, rfl, h3, rfl⟩ := r1
  exact ⟨a, [v1, v2], 1, v2, rfl, rfl, .of (g1.s _ _ h1), rfl, k _ G1 H1 g1 h3⟩
/-- a part of a slice -/
def EvO (p : Pm) (to : TO) (env : List Sl) (m : Option (Option Int)) : Prop :=
  ∀ x, m = some x → ∀ G0 H0 σ G H, Sts p G0 H0 env σ G H → ∀ Q : Option Int → Hp → Prop, (∀ G' H', Gr G G' H H' → Q x H') → to σ H Q
theorem eo_none : EvO p tNoPart env (some none) := fun x e G0 H0 σ G H s Q k => by
  cases e
  exact k G H (.refl s.gr.s)
theorem eo_some (h : Ev p false ta env mi) : EvO p (tPart ta) env (mi.bind fun i => some (some i)) := fun x e G0 H0 σ G H s Q k => by
  obtain ⟨i, e1, e⟩ := bind_some e
  cases e
  exact h i e1 G0 H0 σ G H s _ fun v G1 H1 g1 r1 => ⟨i, r1, k G1 H1 g1⟩
def cut (xs : List α) (lo hi : Option Int) : List α := (xs.drop (HT.sIx xs.length 0 lo)).take (HT.sIx xs.length xs.length hi - HT.sIx xs.length 0 lo)
theorem RpA.cut {G : Hp} {xs : List α} {vs : List V} (r : RpA p G (xs.map enc) vs) (lo hi : Option Int) : RpA p G ((cut xs lo hi).map enc) (cutV vs lo hi) := by
  have hl : xs.length = vs.length := by rw [← r.length, List.length_map]
  unfold PU.cut cutV
  rw [← hl, List.map_take, List.map_drop]
  exact (r.drop _).take _
theorem ev_slice {to tp : TO} {ma : Option (List α)} {ml mh : Option (Option Int)} (ha : Ev p false ta env ma) (hl : EvO p to env ml) (hh : EvO p tp env mh) : Ev p true (tSl (rSlL p.K) ta to tp) env (ma.bind fun xs => ml.bind fun l => mh.bind fun h => some (cut xs l h)) := fun z e G0 H0 σ G H s Q k => by
  obtain ⟨xs, e1, e⟩ := bind_some e
  obtain ⟨l, e2, e⟩ := bind_some e
  obtain ⟨h, e3, e⟩ := bind_some e
  cases e
  refine ha xs e1 G0 H0 σ G H s _ fun v G1 H1 g1 r1 => hl l e2 G0 H0 σ G1 H1 (s.step g1) _ fun G2 H2 g2 => hh h e3 G0 H0 σ G2 H2 ((s.step g1).step g2) _ fun G3 H3 g3 => ?_
  obtain ⟨a, vs, rfl, h1, h2⟩ := r1
  refine ⟨a, vs, rfl, .of (g3.s _ _ (g3.g _ _ (g2.g _ _ h1))), fun q hq => ?_⟩
  exact k _ G3 _ (((g1.trans g2).trans g3).trans (.own g3.s hq)) ⟨q, _, _, rfl, rfl, ((g1.trans g2).trans g3).h.free hq, g3.s.free hq, upd_same, RpA.mono (g2.g.trans g3.g) _ (h2.cut l h)⟩
theorem ev_rev {ma : Option (List α)} (ha : Ev p false ta env ma) : Ev p true (tRevL p.K ta) env (ma.bind fun xs => some xs.reverse) := fun z e G0 H0 σ G H s Q k => by
  obtain ⟨xs, e1, e⟩ := bind_some e
  cases e
  refine ha xs e1 G0 H0 σ G H s _ fun v G1 H1 g1 r1 => ?_
  obtain ⟨a, vs, rfl, h1, h2⟩ := r1
  refine ⟨a, vs, rfl, .of (g1.s _ _ h1), fun q hq => ?_⟩
  refine k _ G1 _ (g1.trans (.own g1.s hq)) ⟨q, vs.reverse, (xs.map enc).reverse, rfl, ?_, g1.h.free hq, g1.s.free hq, upd_same, h2.reverse⟩
  rw [← List.map_reverse]; rfl
def cat? (xs ys : List α) : Option (List α) := if xs.length + ys.length ≤ 100000 then some (xs ++ ys) else none
theorem ev_cat {ma mb : Option (List α)} (ha : Ev p false ta env ma) (hb : Ev p false tb env mb) : Ev p true (tOp rCat ta tb) env (ma.bind fun xs => mb.bind fun ys => cat? xs ys) := ev_op ha hb fun xs ys => by
  intro z e G H v w s rv rw' Q k
  unfold cat? at e
  split at e
  · rename_i c
    cases e
    obtain ⟨a, vs, rfl, h1, h2⟩ := rv
    obtain ⟨b, ws, rfl, h3, h4⟩ := rw'
    have l1 := h2.length
    have l2 := h4.length
    rw [List.length_map] at l1 l2
    refine ⟨a, b, vs, ws, rfl, rfl, s _ _ h1, s _ _ h3, sz_of (by omega), fun q hq => ?_⟩
    refine k _ G _ (.own s hq) ⟨q, vs ++ ws, xs.map enc ++ ys.map enc, rfl, ?_, hq, s.free hq, upd_same, h2.append h4⟩
    rw [← List.map_append]; rfl
  · cases e
def rep? (xs : List α) (i : Int) : Option (List α) := if i.natAbs < 100000 ∧ xs.length * i.toNat ≤ 100000 then some ((List.replicate i.toNat xs).flatten) else none

/-! ### built-ins on lists -/
theorem ev_cb {nw : Bool} {r : List V → Hp → VK → Prop} {ta : TA} {ms : Option (List D)} {f : List D → Option γ} (h : EvA p ta env ms) (hr : ∀ ds, RvC p nw r ds (f ds)) : Ev p nw (tCB r ta) env (ms.bind f) := fun z e G0 H0 σ G H s Q k => by
  obtain ⟨ds, e1, e⟩ := bind_some e
  refine h ds e1 G0 H0 σ G H s _ fun vs G1 H1 g1 r1 => hr ds z e G1 H1 vs g1.s r1 Q fun u G2 H2 g2 r2 => k u G2 H2 (g1.trans g2) ?_
  cases nw with
  | false => exact r2
  | true =>
    obtain ⟨l, vs, ds, q1, q2, q3, q4⟩ := r2
    exact ⟨l, vs, ds, q1, q2, g1.h.free q3, q4⟩
theorem ev_cb1 {nw : Bool} {r : List V → Hp → VK → Prop} {ma : Option α} {f : α → Option γ} (h : Ev p false te env ma) (hr : ∀ x, RvC p nw r [enc x] (f x)) : Ev p nw (tCB r (tCons te tNil)) env (ma.bind f) := fun z e G0 H0 σ G H s Q k => by
  obtain ⟨x, e1, e⟩ := bind_some e
  refine h x e1 G0 H0 σ G H s _ fun v G1 H1 g1 r1 => hr x z e G1 H1 [v] g1.s ⟨v, [], rfl, r1, rfl⟩ Q fun u G2 H2 g2 r2 => k u G2 H2 (g1.trans g2) ?_
  cases nw with
  | false => exact r2
  | true =>
    obtain ⟨l, vs, ds, q1, q2, q3, q4⟩ := r2
    exact ⟨l, vs, ds, q1, q2, g1.h.free q3, q4⟩
theorem one_lst {G : Hp} {xs : List α} {vs : List V} (r : RpA p G [enc xs] vs) : ∃ a ws, vs = [.ref a] ∧ G a = some (.lst ws) ∧ RpA p G (xs.map enc) ws := by
  obtain ⟨v, ws, rfl, ⟨a, us, rfl, h1, h2⟩, rfl⟩ := r
  exact ⟨a, us, rfl, h1, h2⟩
def rLenQ (K : PySem.W.Frag) : List V → Hp → VK → Prop := fun xs H Q => ∃ q ys, xs = [.ref q] ∧ (SqL K H q ys ∨ SqT K H q ys) ∧ Q (.int ys.length) H
theorem ev_len {ma : Option (List α)} (h : Ev p false te env ma) : Ev p false (tCB (rLenQ p.K) (tCons te tNil)) env (ma.bind fun xs => some (xs.length : Int)) := ev_cb1 h fun xs z e G H vs s r Q k => by
  cases e
  obtain ⟨a, ws, rfl, h1, h2⟩ := one_lst r
  refine ⟨a, ws, rfl, .inl (.of (s _ _ h1)), ?_⟩
  have hl : xs.length = ws.length := by rw [← h2.length, List.length_map]
  rw [← hl]
  exact k _ G H (.refl s) rfl
theorem ints_of {G : Hp} {xs : List Int} {ws : List V} (r : RpA p G (xs.map enc) ws) : ws = xs.map V.int := RpA.ints r
theorem of_ints {G : Hp} {xs : List Int} : RpA p G (xs.map enc) (xs.map V.int) := RpA.of_ints
theorem ev_sum {ma : Option (List Int)} (h : Ev p false te env ma) : Ev p false (tCB (rSum p.K) (tCons te tNil)) env (ma.bind fun xs => some xs.sum) := ev_cb1 h fun xs z e G H vs s r Q k => by
  cases e
  obtain ⟨a, ws, rfl, h1, h2⟩ := one_lst r
  cases ints_of h2
  exact ⟨a, xs, rfl, .of (s _ _ h1), k _ G H (.refl s) rfl⟩
def maxL : List Int → Option Int
  | [] => none
  | x :: xs => some (xs.foldl (fun a b => if a < b then b else a) x)
def minL : List Int → Option Int
  | [] => none
  | x :: xs => some (xs.foldl (fun a b => if b < a then b else a) x)
theorem maxL_aux : ∀ (xs : List Int) (x : Int), (∀ y ∈ x :: xs, y ≤ xs.foldl (fun a b => if a < b then b else a) x) ∧ xs.foldl (fun a b => if a < b then b else a) x ∈ x :: xs
  | [], x => by simp
  | y :: ys, x => by
    have h := maxL_aux ys (if x < y then y else x)
    simp only [List.foldl_cons]
    refine ⟨fun z hz => ?_, ?_⟩
    · have h0 := h.1 _ List.mem_cons_self
      rcases List.mem_cons.mp hz with rfl | hz
      · split at h0 <;> rename_i c <;> simp only [c, if_true, if_false] <;> omega
      · rcases List.mem_cons.mp hz with rfl | hz
        · split at h0 <;> rename_i c <;> simp only [c, if_true, if_false] <;> omega
        · exact h.1 z (List.mem_cons_of_mem _ hz)
    · rcases List.mem_cons.mp h.2 with e | e
      · rw [e]; split <;> simp
      · exact List.mem_cons_of_mem _ (List.mem_cons_of_mem _ e)
theorem minL_aux : ∀ (xs : List Int) (x : Int), (∀ y ∈ x :: xs, xs.foldl (fun a b => if b < a then b else a) x ≤ y) ∧ xs.foldl (fun a b => if b < a then b else a) x ∈ x :: xs
  | [], x => by simp
  | y :: ys, x => by
    have h := minL_aux ys (if y < x then y else x)
    simp only [List.foldl_cons]
    refine ⟨fun z hz => ?_, ?_⟩
    · have h0 := h.1 _ List.mem_cons_self
      rcases List.mem_cons.mp hz with rfl | hz
      · split at h0 <;> rename_i c <;> simp only [c, if_true, if_false] <;> omega
      · rcases List.mem_cons.mp hz with rfl | hz
        · split at h0 <;> rename_i c <;> simp only [c, if_true, if_false] <;> omega
        · exact h.1 z (List.mem_cons_of_mem _ hz)
    · rcases List.mem_cons.mp h.2 with e | e
      · rw [e]; split <;> simp
      · exact List.mem_cons_of_mem _ (List.mem_cons_of_mem _ e)
theorem maxL_spec {xs : List Int} {m : Int} (h : maxL xs = some m) : m ∈ xs ∧ ∀ y ∈ xs, y ≤ m := by
  cases xs with
  | nil => cases h
  | cons x xs =>
    cases h
    exact ⟨(maxL_aux xs x).2, (maxL_aux xs x).1⟩
theorem minL_spec {xs : List Int} {m : Int} (h : minL xs = some m) : m ∈ xs ∧ ∀ y ∈ xs, m ≤ y := by
  cases xs with
  | nil => cases h
  | cons x xs =>
    cases h
    exact ⟨(minL_aux xs x).2, (minL_aux xs x).1⟩
theorem maxL_eq {xs : List Int} {m : Int} (h1 : m ∈ xs) (h2 : ∀ y ∈ xs, y ≤ m) : maxL xs = some m := by
  cases h : maxL xs with
  | none =>
    cases xs with
    | nil => cases h1
    | cons x xs => cases h
  | some n =>
    have := maxL_spec h
    have a := h2 n this.1
    have b := this.2 m h1
    rw [show n = m by omega]
theorem minL_eq {xs : List Int} {m : Int} (h1 : m ∈ xs) (h2 : ∀ y ∈ xs, m ≤ y) : minL xs = some m := by
  cases h : minL xs with
  | none =>
    cases xs with
    | nil => cases h1
    | cons x xs => cases h
  | some n =>
    have := minL_spec h
    have a := h2 n this.1
    have b := this.2 m h1
    rw [show n = m by omega]
theorem ev_max {ma : Option (List Int)} (h : Ev p false te env ma) : Ev p false (tCB (rMax p.K) (tCons te tNil)) env (ma.bind fun xs => maxL xs) := ev_cb1 h fun xs z e G H vs s r Q k => by
  obtain ⟨a, ws, rfl, h1, h2⟩ := one_lst r
  cases ints_of h2
  have hz := maxL_spec e
  refine ⟨a, xs, rfl, .of (s _ _ h1), List.length_pos_of_mem hz.1, fun m hm hle => ?_⟩
  have a1 := hle z hz.1
  have a2 := hz.2 m hm
  rw [show m = z by omega]
  exact k _ G H (.refl s) rfl
theorem ev_min {ma : Option (List Int)} (h : Ev p false te env ma) : Ev p false (tCB (rMin p.K) (tCons te tNil)) env (ma.bind fun xs => minL xs) := ev_cb1 h fun xs z e G H vs s r Q k => by
  obtain ⟨a, ws, rfl, h1, h2⟩ := one_lst r
  cases ints_of h2
  have hz := minL_spec e
  refine ⟨a, xs, rfl, .of (s _ _ h1), List.length_pos_of_mem hz.1, fun m hm hle => ?_⟩
  have a1 := hle z hz.1
  have a2 := hz.2 m hm
  rw [show m = z by omega]
  exact k _ G H (.refl s) rfl
theorem ev_all {ma : Option (List Bool)} (h : Ev p false te env ma) : Ev p false (tCB (rAll p.K) (tCons te tNil)) env (ma.bind fun xs => some (xs.all id)) := ev_cb1 h fun xs z e G H vs s r Q k => by
  cases e
  obtain ⟨a, ws, rfl, h1, h2⟩ := one_lst r
  cases (RpA.bls h2 : ws = xs.map V.bl)
  exact ⟨a, xs, rfl, .of (s _ _ h1), k _ G H (.refl s) rfl⟩
theorem ev_any {ma : Option (List Bool)} (h : Ev p false te env ma) : Ev p false (tCB (rAny p.K) (tCons te tNil)) env (ma.bind fun xs => some (xs.any id)) := ev_cb1 h fun xs z e G H vs s r Q k => by
  cases e
  obtain ⟨a, ws, rfl, h1, h2⟩ := one_lst r
  cases (RpA.bls h2 : ws = xs.map V.bl)
  exact ⟨a, xs, rfl, .of (s _ _ h1), k _ G H (.refl s) rfl⟩
def rListQ (K : PySem.W.Frag) : List V → Hp → VK → Prop := fun xs H Q => ∃ q ys, xs = [.ref q] ∧ (SqL K H q ys ∨ SqT K H q ys) ∧ ∀ l, H l = none → Q (.ref l) (upd H l (.lst ys))
theorem ev_list {ma : Option (List α)} (h : Ev p false te env ma) : Ev p true (tCB (rListQ p.K) (tCons te tNil)) env (ma.bind fun xs => some xs) := ev_cb1 h fun xs z e G H vs s r Q k => by
  cases e
  obtain ⟨a, ws, rfl, h1, h2⟩ := one_lst r
  exact ⟨a, ws, rfl, .inl (.of (s _ _ h1)), fun l hl => k _ G _ (.own s hl) ⟨l, ws, xs.map enc, rfl, rfl, hl, s.free hl, upd_same, h2⟩⟩
/-- rising -/
def ins (x : Int) : List Int → List Int
  | [] => [x]
  | y :: ys => if x ≤ y then x :: y :: ys else y :: ins x ys
def isort : List Int → List Int
  | [] => []
  | x :: xs => ins x (isort xs)
theorem ins_perm (x : Int) : ∀ ys : List Int, (ins x ys).Perm (x :: ys)
  | [] => .refl _
  | y :: ys => by
    unfold ins
    split
    · exact .refl _
    · exact ((ins_perm x ys).cons y).trans (.swap x y ys)
theorem ins_sorted (x : Int) : ∀ ys : List Int, ys.Pairwise (· ≤ ·) → (ins x ys).Pairwise (· ≤ ·)
  | [], _ => by simp [ins]
  | y :: ys, h => by
    unfold ins
    obtain ⟨h1, h2⟩ := List.pairwise_cons.mp h
    split
    · rename_i c
      refine List.pairwise_cons.mpr ⟨fun z hz => ?_, h⟩
      rcases List.mem_cons.mp hz with rfl | hz
      · exact c
      · have := h1 z hz; omega
    · rename_i c
      refine List.pairwise_cons.mpr ⟨fun z hz => ?_, ins_sorted x ys h2⟩
      rcases List.mem_cons.mp ((ins_perm x ys).mem_iff.mp hz) with rfl | hz
      · omega
      · exact h1 z hz
theorem isort_perm : ∀ xs : List Int, (isort xs).Perm xs
  | [] => .refl _
  | x :: xs => (ins_perm x _).trans ((isort_perm xs).cons x)
theorem isort_sorted : ∀ xs : List Int, (isort xs).Pairwise (· ≤ ·)
  | [] => .nil
  | x :: xs => ins_sorted x _ (isort_sorted xs)
theorem sorted_eq : ∀ {xs ys : List Int}, xs.Perm ys → xs.Pairwise (· ≤ ·) → ys.Pairwise (· ≤ ·) → xs = ys
  | [], ys, h, _, _ => (List.nil_perm.mp h).symm
  | x :: xs, [], h, _, _ => by cases List.perm_nil.mp h
  | x :: xs, y :: ys, h, h1, h2 => by
    obtain ⟨a1, a2⟩ := List.pairwise_cons.mp h1
    obtain ⟨b1, b2⟩ := List.pairwise_cons.mp h2
    have hxy : x = y := by
      have m1 : x ∈ y :: ys := h.mem_iff.mp List.mem_cons_self
      have m2 : y ∈ x :: xs := h.mem_iff.mpr List.mem_cons_self
      rcases List.mem_cons.mp m1 with e | m1
      · exact e
      · rcases List.mem_cons.mp m2 with e | m2
        · exact e.symm
        · have := b1 x m1
          have := a1 y m2
          omega
    subst hxy
    rw [sorted_eq (List.perm_cons x |>.mp h) a2 b2]
def sort? (xs : List Int) : Option (List Int) := if xs.length < 64 then some (isort xs) else none
theorem ev_sorted {ma : Option (List Int)} (h : Ev p false te env ma) : Ev p true (tCB (rSorted p.K) (tCons te tNil)) env (ma.bind fun xs => sort? xs) := ev_cb1 h fun xs z e G H vs s r Q k => by
  unfold sort? at e
  split at e
  · rename_i c
    cases e
    obtain ⟨a, ws, rfl, h1, h2⟩ := one_lst r
    cases ints_of h2
    refine ⟨a, xs, rfl, .of (s _ _ h1), c, fun ns l pm so hl => ?_⟩
    cases sorted_eq (pm.trans (isort_perm xs).symm) so (isort_sorted xs)
    exact k _ G _ (.own s hl) ⟨l, _, (isort xs).map enc, rfl, rfl, hl, s.free hl, upd_same, of_ints⟩
  · cases e
/-- xs.index(x) -/
def idx? (xs : List Int) (x : Int) : Option Int := (xs.findIdx? (· == x)).map fun (n : Nat) => (n : Int)
theorem flat_ints : ∀ xs : List Int, (xs.map V.int).all flatV = true := fun xs => by
  rw [List.all_eq_true]
  intro v hv
  obtain ⟨n, _, rfl⟩ := List.mem_map.mp hv
  rfl
theorem ev_index {ma : Option (List Int)} {mb : Option Int} (ha : Ev p false ta env ma) (hb : Ev p false tb env mb) : Ev p false (tBM p.K "list" (rIndex p.K) ta (tCons tb tNil)) env (ma.bind fun xs => mb.bind fun x => idx? xs x) := fun z e G0 H0 σ G H s Q k => by
  obtain ⟨xs, e1, e⟩ := bind_some e
  obtain ⟨x, e2, e⟩ := bind_some e
  refine ha xs e1 G0 H0 σ G H s _ fun v G1 H1 g1 r1 => ?_
  obtain ⟨a, vs, rfl, h1, h2⟩ := r1
  cases ints_of h2
  refine ⟨.inl ⟨rfl, _, .of (g1.s _ _ h1)⟩, ?_⟩
  refine hb x e2 G0 H0 σ G1 H1 (s.step g1) _ fun w G2 H2 g2 r2 => ?_
  cases (show w = .int x from r2)
  unfold idx? at e
  cases f : xs.findIdx? (· == x) with
  | none => rw [f] at e; cases e
  | some j =>
    rw [f] at e
    cases e
    obtain ⟨hj, hx, hn⟩ := List.findIdx?_eq_some_iff_getElem.mp f
    refine ⟨a, xs.map V.int, .int x, j, .int xs[j], rfl, rfl, .of (g2.s _ _ (g2.g _ _ h1)), rfl, flat_ints xs, ?_, ?_, fun m z hm hz => ?_, k _ G2 H2 (g1.trans g2) rfl⟩
    · rw [List.getElem?_map, List.getElem?_eq_getElem hj]; rfl
    · exact hx
    · have hm' : m < xs.length := by omega
      rw [List.getElem?_map, List.getElem?_eq_getElem hm'] at hz
      cases hz
      have := hn m hm
      show (xs[m] == x) = false
      simpa using this
/-- x in xs -/
theorem inV_ints (x : Int) (xs : List Int) : inV (.int x) (xs.map V.int) = decide (x ∈ xs) := by
  unfold inV
  induction xs with
  | nil => rfl
  | cons y ys ih =>
    rw [List.map_cons, List.any_cons, ih]
    show ((y == x) || _) = _
    by_cases h : y = x
    · subst h; simp
    · have : ¬ x = y := fun e => h e.symm
      simp [h, this]
theorem ev_in {ma : Option Int} {mb : Option (List Int)} (ha : Ev p false ta env ma) (hb : Ev p false tb env mb) : Ev p false (tOp (rIn p.K false) ta tb) env (ma.bind fun x => mb.bind fun xs => some (decide (x ∈ xs))) := ev_op ha hb fun x xs => by
  intro z e G H v w s rv rw' Q k
  cases e
  cases (show v = .int x from rv)
  obtain ⟨a, vs, rfl, h1, h2⟩ := rw'
  cases ints_of h2
  refine ⟨a, _, rfl, .inl (.of (s _ _ h1)), rfl, flat_ints xs, ?_⟩
  show Q (.bl (inV (.int x) (xs.map V.int))) H
  rw [inV_ints]
  exact k _ G H (.refl s) rfl
theorem ev_notIn {ma : Option Int} {mb : Option (List Int)} (ha : Ev p false ta env ma) (hb : Ev p false tb env mb) : Ev p false (tOp (rIn p.K true) ta tb) env (ma.bind fun x => mb.bind fun xs => some (!decide (x ∈ xs))) := ev_op ha hb fun x xs => by
  intro z e G H v w s rv rw' Q k
  cases e
  cases (show v = .int x from rv)
  obtain ⟨a, vs, rfl, h1, h2⟩ := rw'
  cases ints_of h2
  refine ⟨a, _, rfl, .inl (.of (s _ _ h1)), rfl, flat_ints xs, ?_⟩
  show Q (.bl (!inV (.int x) (xs.map V.int))) H
  rw [inV_ints]
  exact k _ G H (.refl s) rfl
theorem ev_abs (h : Ev p false te env mi) : Ev p false (tCB (fun xs H Q => ∃ i, xs = [.int i] ∧ Q (.int (if i < 0 then -i else i)) H) (tCons te tNil)) env (mi.bind fun i => some (if i < 0 then -i else i)) := ev_cb1 h fun i z e G H vs s r Q k => by
  cases e
  obtain ⟨v, ws, rfl, h1, rfl⟩ := r
  cases (show v = .int i from h1)
  exact ⟨i, rfl, k _ G H (.refl s) rfl⟩
theorem ev_max2 (ha : Ev p false ta env mi) (hb : Ev p false tb env mj) : Ev p false (tCB (fun xs H Q => ∃ i j, xs = [.int i, .int j] ∧ Q (.int (if j > i then j else i)) H) (tCons ta (tCons tb tNil))) env (mi.bind fun i => mj.bind fun j => some (if j > i then j else i)) := fun z e G0 H0 σ G H s Q k => by
  obtain ⟨x, e1, e⟩ := bind_some e
  obtain ⟨y, e2, e⟩ := bind_some e
  cases e
  refine ha x e1 G0 H0 σ G H s _ fun v G1 H1 g1 r1 => hb y e2 G0 H0 σ G1 H1 (s.step g1) _ fun w G2 H2 g2 r2 => ?_
  cases (show v = .int x from r1)
  cases (show w = .int y from r2)
  exact ⟨x, y, rfl, k _ G2 H2 (g1.trans g2) rfl⟩
/-- list(range(n)) -/
def rng (a b : Int) : List Int := (List.range (b - a).toNat).map fun (i : Nat) => a + (i : Int)
def rng? (a b : Int) : Option (List Int) := if a.natAbs ≤ 100000 ∧ b.natAbs ≤ 100000 then some (rng a b) else none
theorem rgV_eq (a b : Int) : rgV a b = (rng a b).map V.int := by
  unfold rgV rng
  rw [List.map_map]
  rfl
theorem ev_listRg (h : Ev p false te env mi) : Ev p true (tLstRg (tRg1 te)) env (mi.bind fun i => rng? 0 i) := fun z e G0 H0 σ G H s Q k => by
  obtain ⟨i, e1, e⟩ := bind_some e
  unfold rng? at e
  split at e
  · rename_i c
    cases e
    refine h i e1 G0 H0 σ G H s _ fun v G1 H1 g1 r1 => ⟨i, r1, ⟨by omega, by omega, by omega, by omega, by omega⟩, fun q hq => ?_⟩
    rw [rgV_eq]
    exact k _ G1 _ (g1.trans (.own g1.s hq)) ⟨q, _, (rng 0 i).map enc, rfl, rfl, g1.h.free hq, g1.s.free hq, upd_same, of_ints⟩
  · cases e
end
end PU

set_option Elab.async false
set_option maxRecDepth 100000
set_option linter.all false
/-! PU3: equality of data, walked things, comprehensions, calls, statements, loops, defs. -/
namespace PU
open PySem L2
open Enc

/-! ### equality -/
class EqOk (α : Type) [Enc α] [DecidableEq α] where
  pd : α → PyData
  dp : ∀ {p : Pm} {G : Hp} (x : α) (v : V), Rp p G (enc x) v → Dp p.K G v (pd x)
  lay : ∀ x, (pd x).canLay0 = true
  dep : Nat
  hdep : ∀ x, (pd x).depth ≤ dep
  eqv : ∀ x y, PyData.eqv (pd x) (pd y) = decide (x = y)
instance : EqOk Int where
  pd := .int
  dp := fun x v h => by rw [show v = .int x from h]; exact .int x
  lay := fun _ => by simp only [PyData.canLay0]
  dep := 0
  hdep := fun _ => by simp only [PyData.depth]; exact Nat.le_refl _
  eqv := fun x y => by
    show PyData.eqv (.int x) (.int y) = _
    simp only [PyData.eqv]
    by_cases h : x = y <;> simp [h]
instance : EqOk Bool where
  pd := .bool
  dp := fun x v h => by rw [show v = .bl x from h]; exact .bl x
  lay := fun _ => by simp only [PyData.canLay0]
  dep := 0
  hdep := fun _ => by simp only [PyData.depth]; exact Nat.le_refl _
  eqv := fun x y => by
    show PyData.eqv (.bool x) (.bool y) = _
    simp only [PyData.eqv]
    cases x <;> cases y <;> rfl
instance : EqOk (Option Int) where
  pd := fun o => match o with | none => .none | some i => .int i
  dp := fun x v h => by
    cases x with
    | none => rw [show v = .non from h]; exact .non
    | some i => rw [show v = .int i from h]; exact .int i
  lay := fun x => by cases x <;> simp only [PyData.canLay0]
  dep := 0
  hdep := fun x => by cases x <;> (simp only [PyData.depth]; exact Nat.le_refl _)
  eqv := fun x y => by
    cases x <;> cases y <;> simp only [PyData.eqv] <;> simp
    rename_i a b
    by_cases h : a = b <;> simp [h]
section
variable {α : Type} [Enc α] [DecidableEq α] [EqOk α]
theorem dpAll : ∀ {p : Pm} {G : Hp} (xs : List α) (vs : List V), RpA p G (xs.map enc) vs → DpAll p.K G vs (xs.map EqOk.pd)
  | _, _, [], vs, h => by rw [show vs = [] from h]; exact .nil
  | _, _, x :: xs, vs, h => by
    obtain ⟨v, vs, rfl, h1, h2⟩ := h
    exact .cons (EqOk.dp x v h1) (dpAll xs vs h2)
theorem layAll : ∀ xs : List α, PyData.canLayAll0 (xs.map EqOk.pd) = true
  | [] => by simp only [List.map_nil, PyData.canLayAll0]
  | x :: xs => by simp only [List.map_cons, PyData.canLayAll0, EqOk.lay, layAll xs, Bool.and_self]
theorem depAll : ∀ xs : List α, PyData.depthAll (xs.map EqOk.pd) ≤ EqOk.dep α
  | [] => by simp only [List.map_nil, PyData.depthAll]; exact Nat.zero_le _
  | x :: xs => by
    simp only [List.map_cons, PyData.depthAll]
    exact Nat.max_le.mpr ⟨EqOk.hdep x, depAll xs⟩
theorem eqvAll : ∀ xs ys : List α, PyData.eqvAll (xs.map EqOk.pd) (ys.map EqOk.pd) = decide (xs = ys)
  | [], [] => by simp [PyData.eqvAll]
  | [], _ :: _ => by simp [PyData.eqvAll]
  | _ :: _, [] => by simp [PyData.eqvAll]
  | x :: xs, y :: ys => by
    simp only [List.map_cons, PyData.eqvAll, EqOk.eqv, eqvAll xs ys]
    by_cases h : x = y <;> by_cases h' : xs = ys <;> simp [h, h']
instance : EqOk (List α) where
  pd := fun xs => .list (xs.map EqOk.pd)
  dp := fun x v h => by
    obtain ⟨a, vs, rfl, h1, h2⟩ := h
    exact .lst (.of h1) (dpAll x vs h2)
  lay := fun x => by simp only [PyData.canLay0]; exact layAll x
  dep := EqOk.dep α + 1
  hdep := fun x => by simp only [PyData.depth]; exact Nat.succ_le_succ (depAll x)
  eqv := fun x y => by simp only [PyData.eqv]; exact eqvAll x y
instance {β : Type} [Enc β] [DecidableEq β] [EqOk β] : EqOk (α × β) where
  pd := fun x => .tuple [EqOk.pd x.1, EqOk.pd x.2]
  dp := fun x v h => by
    obtain ⟨a, vs, rfl, h1, v1, vs1, rfl, h2, v2, vs2, rfl, h3, rfl⟩ := h
    exact .tup (.of h1) (.cons (EqOk.dp x.1 v1 h2) (.cons (EqOk.dp x.2 v2 h3) .nil))
  lay := fun x => by simp only [PyData.canLay0, PyData.canLayAll0, EqOk.lay, Bool.and_self]
  dep := max (EqOk.dep α) (EqOk.dep β) + 1
  hdep := fun x => by
    simp only [PyData.depth, PyData.depthAll]
    have h1 := EqOk.hdep x.1
    have h2 := EqOk.hdep x.2
    omega
  eqv := fun x y => by
    simp only [PyData.eqv, PyData.eqvAll, EqOk.eqv, Bool.and_true]
    by_cases h : x.1 = y.1 <;> by_cases h' : x.2 = y.2 <;> simp [h, h', Prod.ext_iff]
end
section
variable {p : Pm} {env : List Sl} {ta tb tc te : TE} {α β γ δ : Type} [Enc α] [Enc β] [Enc γ] [Enc δ]
theorem shaped_of [DecidableEq α] [EqOk α] (hd : EqOk.dep α ≤ 64) (x : α) : SeqAt.shaped (EqOk.pd x) = true := by
  unfold SeqAt.shaped
  rw [EqOk.lay x, decide_eq_true (Nat.le_trans (EqOk.hdep x) hd)]
  rfl
theorem ev_eqD [DecidableEq α] [EqOk α] {ma mb : Option α} (ha : Ev p false ta env ma) (hb : Ev p false tb env mb) (hd : EqOk.dep α ≤ 64 := by decide) : Ev p false (tOp (rEqD p.K) ta tb) env (ma.bind fun x => mb.bind fun y => some (decide (x = y))) := ev_op ha hb fun x y => by
  intro z e G H v w s rv rw' Q k
  cases e
  refine ⟨_, _, EqOk.dp x v (Rp.mono s _ rv), EqOk.dp y w (Rp.mono s _ rw'), shaped_of hd x, shaped_of hd y, ?_⟩
  rw [EqOk.eqv]
  exact k _ G H (.refl s) rfl
theorem ev_neD [DecidableEq α] [EqOk α] {ma mb : Option α} (ha : Ev p false ta env ma) (hb : Ev p false tb env mb) (hd : EqOk.dep α ≤ 64 := by decide) : Ev p false (tOp (rNeD p.K) ta tb) env (ma.bind fun x => mb.bind fun y => some (!decide (x = y))) := ev_op ha hb fun x y => by
  intro z e G H v w s rv rw' Q k
  cases e
  refine ⟨_, _, EqOk.dp x v (Rp.mono s _ rv), EqOk.dp y w (Rp.mono s _ rw'), shaped_of hd x, shaped_of hd y, ?_⟩
  rw [EqOk.eqv]
  exact k _ G H (.refl s) rfl
/-- ints, truths -/
class Sc (α : Type) [Enc α] [DecidableEq α] where
  v : α → V
  rp : ∀ {p : Pm} {G : Hp} (x : α) (w : V), Rp p G (enc x) w → w = v x
  inj : ∀ x y, v x = v y ↔ x = y
  scal : ∀ x y, scal (v x) (v y) = true
instance : Sc Int := ⟨.int, fun x w h => h, fun x y => ⟨fun h => by cases h; rfl, fun h => by rw [h]⟩, fun _ _ => rfl⟩
instance : Sc Bool := ⟨.bl, fun x w h => h, fun x y => ⟨fun h => by cases h; rfl, fun h => by rw [h]⟩, fun _ _ => rfl⟩
theorem ev_eqS [DecidableEq α] [Sc α] {ma mb : Option α} (ha : Ev p false ta env ma) (hb : Ev p false tb env mb) : Ev p false (tOp rEq ta tb) env (ma.bind fun x => mb.bind fun y => some (decide (x = y))) := ev_op ha hb fun x y => by
  intro z e G H v w s rv rw' Q k
  cases e
  cases Sc.rp x v rv
  cases Sc.rp y w rw'
  refine ⟨Sc.scal x y, ?_⟩
  have e : decide (Sc.v x = Sc.v y) = decide (x = y) := by
    by_cases h : x = y
    · subst h; simp
    · rw [decide_eq_false h, decide_eq_false fun q => h ((Sc.inj x y).mp q)]
  rw [e]
  exact k _ G H (.refl s) rfl
theorem ev_neS [DecidableEq α] [Sc α] {ma mb : Option α} (ha : Ev p false ta env ma) (hb : Ev p false tb env mb) : Ev p false (tOp rNe ta tb) env (ma.bind fun x => mb.bind fun y => some (!decide (x = y))) := ev_op ha hb fun x y => by
  intro z e G H v w s rv rw' Q k
  cases e
  cases Sc.rp x v rv
  cases Sc.rp y w rw'
  refine ⟨Sc.scal x y, ?_⟩
  have e : decide (Sc.v x = Sc.v y) = decide (x = y) := by
    by_cases h : x = y
    · subst h; simp
    · rw [decide_eq_false h, decide_eq_false fun q => h ((Sc.inj x y).mp q)]
  rw [e]
  exact k _ G H (.refl s) rfl

/-! ### lists of one's own, read where they stand -/
theorem own_ix {i : Nat} {xs : List α} (h : env[i]? = some (.ow (xs.map enc))) (hb : Ev p false tb env (mi : Option Int)) : Ev p false (tOp (rIxL p.K) (tVar i) tb) env (mi.bind fun k => atI xs k) := fun z e G0 H0 σ G H s Q k => by
  obtain ⟨j, e1, e⟩ := bind_some e
  obtain ⟨Fs, f⟩ := s.rs
  obtain ⟨v, a1, ⟨l, vs, rfl, eF, h2⟩, a3, a4⟩ := f.wh i _ h
  have hH : H l = some (.lst vs) := a3 _ _ (by rw [eF]; exact upd_same)
  refine ⟨_, a1, ?_⟩
  refine hb j e1 G0 H0 σ G H s _ fun w G1 H1 g1 r1 => ?_
  cases (show w = .int j from r1)
  obtain ⟨u, h3, h4⟩ := atI_map h2 e
  exact ⟨l, vs, j, u, rfl, rfl, .of (g1.h _ _ hH), h3, k u G1 H1 g1 (Rp.mono g1.g _ h4)⟩
theorem own_len {i : Nat} {xs : List α} (h : env[i]? = some (.ow (xs.map enc))) : Ev p false (tCB (rLenQ p.K) (tCons (tVar i) tNil)) env (some (xs.length : Int)) := fun z e G0 H0 σ G H s Q k => by
  cases e
  obtain ⟨Fs, f⟩ := s.rs
  obtain ⟨v, a1, ⟨l, vs, rfl, eF, h2⟩, a3, a4⟩ := f.wh i _ h
  have hH : H l = some (.lst vs) := a3 _ _ (by rw [eF]; exact upd_same)
  refine ⟨_, a1, l, vs, rfl, .inl (.of hH), ?_⟩
  have hl : xs.length = vs.length := by rw [← h2.length, List.length_map]
  rw [← hl]
  exact k _ G H (.refl s.gr.s) rfl
/-- an operation on the list of one's own as on any list, where the answer doesn't lean on it: found == [], found != [] -/
theorem own_op {nw : Bool} {r : R2} {i : Nat} {xs : List α} {f : List α → β → Option γ} {mb : Option β} (h : env[i]? = some (.ow (xs.map enc))) (hb : Ev p false tb env mb) (hr : ∀ y, RvOp p nw r (enc xs) (enc y) (f xs y))
    (sc : ∀ (z : γ) G v, Rp p G (enc z) v → ∀ G', Rp p G' (enc z) v) (hn : nw = false) : Ev p nw (tOp r (tVar i) tb) env (mb.bind fun y => f xs y) := fun z e G0 H0 σ G H s Q k => by
  subst hn
  obtain ⟨y, e1, e⟩ := bind_some e
  obtain ⟨Fs, f⟩ := s.rs
  obtain ⟨v, a1, ⟨l, vs, rfl, eF, h2⟩, a3, a4⟩ := f.wh i _ h
  have hH : H l = some (.lst vs) := a3 _ _ (by rw [eF]; exact upd_same)
  refine ⟨_, a1, ?_⟩
  refine hb y e1 G0 H0 σ G H s _ fun w G1 H1 g1 r1 => ?_
  have hG1 : G1 l = none := by
    cases q : G1 l with
    | none => rfl
    | some u =>
      have := g1.n l u q (a4 l _ (by rw [eF]; exact upd_same)).1
      rw [hH] at this; cases this
  have n1 := same_new (o := .lst vs) hG1
  have s1 : Same (upd G1 l (.lst vs)) H1 := fun a u q => by
    by_cases c : a = l
    · subst c; rw [upd_same] at q; cases q; exact g1.h _ _ hH
    · rw [upd_ne c] at q; exact g1.s _ _ q
  refine hr y z e (upd G1 l (.lst vs)) H1 (.ref l) w s1 ⟨l, vs, rfl, upd_same, RpA.mono (g1.g.trans n1) _ h2⟩ (Rp.mono n1 _ r1) Q fun u G2 H2 g2 r2 => ?_
  exact k u G1 H2 ⟨g1.g, g1.s.trans g2.h, g1.h.trans g2.h, g1.n⟩ (sc z _ u r2 G1)
theorem own_eqD [DecidableEq α] [EqOk α] {i : Nat} {xs : List α} {mb : Option (List α)} (h : env[i]? = some (.ow (xs.map enc))) (hb : Ev p false tb env mb) (hd : EqOk.dep (List α) ≤ 64 := by decide) : Ev p false (tOp (rEqD p.K) (tVar i) tb) env (mb.bind fun y => some (decide (xs = y))) :=
  own_op (f := fun xs y => some (decide (xs = y))) h hb (fun y => by
    intro z e G H v w s rv rw' Q k
    cases e
    refine ⟨_, _, EqOk.dp xs v (Rp.mono s _ rv), EqOk.dp y w (Rp.mono s _ rw'), shaped_of hd xs, shaped_of hd y, ?_⟩
    rw [EqOk.eqv]
    exact k _ G H (.refl s) rfl) (fun z G v h G' => h) rfl
theorem own_neD [DecidableEq α] [EqOk α] {i : Nat} {xs : List α} {mb : Option (List α)} (h : env[i]? = some (.ow (xs.map enc))) (hb : Ev p false tb env mb) (hd : EqOk.dep (List α) ≤ 64 := by decide) : Ev p false (tOp (rNeD p.K) (tVar i) tb) env (mb.bind fun y => some (!decide (xs = y))) :=
  own_op (f := fun xs y => some (!decide (xs = y))) h hb (fun y => by
    intro z e G H v w s rv rw' Q k
    cases e
    refine ⟨_, _, EqOk.dp xs v (Rp.mono s _ rv), EqOk.dp y w (Rp.mono s _ rw'), shaped_of hd xs, shaped_of hd y, ?_⟩
    rw [EqOk.eqv]
    exact k _ G H (.refl s) rfl) (fun z G v h G' => h) rfl

/-! ### walked things -/
/-- J gives, one behind another, what stands for ds -/
def ItD (p : Pm) (J : It) (G : Hp) (ds : List D) : Prop := ∀ G1 H, Same G G1 → Same G1 H → ∀ i : Nat,
  (∀ d, ds[i]? = some d → J.go i H ∧ ∀ x H', J.yld i H x H' → ∃ G', Gr G1 G' H H' ∧ Rp p G' d x) ∧ (ds.length ≤ i → i = ds.length → J.stop i H)
def EvI (p : Pm) (wi : TI) (env : List Sl) (m : Option (List α)) : Prop :=
  ∀ xs, m = some xs → ∀ G0 H0 σ G H, Sts p G0 H0 env σ G H → ∀ R : It → Hp → Prop, (∀ J G' H', Gr G G' H H' → ItD p J G' (xs.map enc) → R J H') → wi σ H R
theorem itd_list {G : Hp} {a : Addr} {ds : List D} {vs : List V} (h : G a = some (.lst vs)) (r : RpA p G ds vs) : ItD p (Itl p.K a) G ds := fun G1 H s1 s2 i => by
  have hs : SqL p.K H a vs := .of (s2 _ _ (s1 _ _ h))
  refine ⟨fun d e => ?_, fun _ e => ⟨vs, hs, by rw [← r.length, e]; exact Nat.le_refl _⟩⟩
  obtain ⟨v, h1, h2⟩ := r.get e
  refine ⟨⟨vs, v, hs, h1⟩, fun x H' y => ?_⟩
  obtain ⟨rfl, y⟩ := y
  have := y vs hs
  rw [h1] at this; cases this
  exact ⟨G1, .refl s2, Rp.mono s1 _ h2⟩
theorem itd_tup {G : Hp} {a : Addr} {ds : List D} {vs : List V} (h : G a = some (.tup vs)) (r : RpA p G ds vs) : ItD p (Itt p.K a) G ds := fun G1 H s1 s2 i => by
  have hs : SqT p.K H a vs := .of (s2 _ _ (s1 _ _ h))
  refine ⟨fun d e => ?_, fun _ e => ⟨vs, hs, by rw [← r.length, e]; exact Nat.le_refl _⟩⟩
  obtain ⟨v, h1, h2⟩ := r.get e
  refine ⟨⟨vs, v, hs, h1⟩, fun x H' y => ?_⟩
  obtain ⟨rfl, y⟩ := y
  have := y vs hs
  rw [h1] at this; cases this
  exact ⟨G1, .refl s2, Rp.mono s1 _ h2⟩
theorem ei_list {m : Option (List α)} (h : Ev p false te env m) : EvI p (iList p.K te) env m := fun xs e G0 H0 σ G H s R k =>
  h xs e G0 H0 σ G H s _ fun v G1 H1 g1 r1 => by
    obtain ⟨a, vs, rfl, h1, h2⟩ := r1
    exact ⟨a, rfl, ⟨vs, .of (g1.s _ _ h1)⟩, k _ G1 H1 g1 (itd_list h1 h2)⟩
theorem ei_tup {m : Option (Tu α)} (h : Ev p false te env m) : EvI p (iTup p.K te) env (m.bind fun t => some t.xs) := fun xs e G0 H0 σ G H s R k => by
  obtain ⟨t, e1, e⟩ := bind_some e
  cases e
  exact h t e1 G0 H0 σ G H s _ fun v G1 H1 g1 r1 => by
    obtain ⟨a, vs, rfl, h1, h2⟩ := r1
    exact ⟨a, rfl, ⟨vs, .of (g1.s _ _ h1)⟩, k _ G1 H1 g1 (itd_tup h1 h2)⟩
theorem rng_get {a b : Int} {i : Nat} {d : D} (h : ((rng a b).map (enc (α := Int)))[i]? = some d) : i < (b - a).toNat ∧ d = .int (a + i) := by
  unfold rng at h
  rw [List.map_map, List.getElem?_map] at h
  by_cases c : i < (b - a).toNat
  · rw [List.getElem?_range c] at h
    cases h
    exact ⟨c, rfl⟩
  · rw [List.getElem?_eq_none (by simp; omega)] at h
    cases h
theorem rng_len {a b : Int} : (rng a b).length = (b - a).toNat := by unfold rng; simp
theorem itd_rng {G : Hp} {a b : Int} : ItD p (Itr a (b - a).toNat) G ((rng a b).map enc) := fun G1 H s1 s2 i => by
  refine ⟨fun d e => ?_, fun _ e => ?_⟩
  · obtain ⟨h1, rfl⟩ := rng_get e
    refine ⟨h1, fun x H' y => ?_⟩
    obtain ⟨rfl, rfl⟩ := y
    exact ⟨G1, .refl s2, rfl⟩
  · rw [List.length_map, rng_len] at e
    show (b - a).toNat ≤ i
    omega
theorem ei_range1 {mi : Option Int} (h : Ev p false te env mi) : EvI p (iRng1 (tCons te tNil)) env (mi.bind fun n => rng? 0 n) := fun xs e G0 H0 σ G H s R k => by
  obtain ⟨n, e1, e⟩ := bind_some e
  unfold rng? at e
  split at e
  · rename_i c
    cases e
    refine h n e1 G0 H0 σ G H s _ fun v G1 H1 g1 r1 => ?_
    cases (show v = .int n from r1)
    refine ⟨n, rfl, by omega, by omega, k _ G1 H1 g1 ?_⟩
    have q : n.toNat = (n - 0).toNat := by omega
    rw [q]
    exact itd_rng
  · cases e
theorem ei_range2 {mi mj : Option Int} (h : Ev p false ta env mi) (h' : Ev p false tb env mj) : EvI p (iRng2 (tCons ta (tCons tb tNil))) env (mi.bind fun a => mj.bind fun b => rng? a b) := fun xs e G0 H0 σ G H s R k => by
  obtain ⟨a, e1, e⟩ := bind_some e
  obtain ⟨b, e2, e⟩ := bind_some e
  unfold rng? at e
  split at e
  · rename_i c
    cases e
    refine h a e1 G0 H0 σ G H s _ fun v G1 H1 g1 r1 => h' b e2 G0 H0 σ G1 H1 (s.step g1) _ fun w G2 H2 g2 r2 => ?_
    cases (show v = .int a from r1)
    cases (show w = .int b from r2)
    exact ⟨a, b, rfl, ⟨by omega, by omega, by omega, by omega⟩, k _ G2 H2 (g1.trans g2) itd_rng⟩
  · cases e
def enumL (xs : List α) : List (Int × α) := ((List.range xs.length).map fun (i : Nat) => (i : Int)).zip xs
theorem enumL_len (xs : List α) : (enumL xs).length = xs.length := by unfold enumL; simp
theorem enumL_get {xs : List α} {i : Nat} {d : D} (h : ((enumL xs).map enc)[i]? = some d) : ∃ x, xs[i]? = some x ∧ d = .tup [.int i, enc x] := by
  unfold enumL at h
  rw [List.getElem?_map] at h
  cases q : xs[i]? with
  | none =>
    have := List.getElem?_eq_none_iff.mp q
    rw [List.getElem?_eq_none (by simp; omega)] at h
    cases h
  | some x =>
    have hi := (List.getElem?_eq_some_iff.mp q).1
    refine ⟨x, rfl, ?_⟩
    rw [List.getElem?_eq_getElem (by simp; exact hi)] at h
    have hx := (List.getElem?_eq_some_iff.mp q).2
    simp [hx] at h
    exact h.symm
theorem itd_pair {J : It} {n : Nat} {Gp : Hp → Prop} {f g : Nat → Option V} {G : Hp} {ds : List D} (w : Walk J n Gp (YPair f g)) (hn : ds.length = n) (hG : ∀ H, Same G H → Gp H)
    (hd : ∀ (i : Nat) d, ds[i]? = some d → ∃ d1 d2, d = .tup [d1, d2] ∧ ∀ v1 v2, f i = some v1 → g i = some v2 → Rp p G d1 v1 ∧ Rp p G d2 v2) : ItD p J G ds := fun G1 H s1 s2 i => by
  refine ⟨fun d e => ?_, fun _ e => ?_⟩
  · have hi : i < n := by rw [← hn]; exact (List.getElem?_eq_some_iff.mp e).1
    refine ⟨w.goes i H hi (hG H (s1.trans s2)), fun x H' y => ?_⟩
    obtain ⟨T, x1, x2, rfl, h1, rfl, h2, h3⟩ := w.yields i H x H' hi (hG H (s1.trans s2)) y
    obtain ⟨d1, d2, rfl, hr⟩ := hd i d e
    obtain ⟨r1, r2⟩ := hr x1 x2 h2 h3
    have nn := same_new (o := .tup [x1, x2]) (s2.free h1)
    exact ⟨_, .new s2 h1, T, [x1, x2], rfl, upd_same, x1, [x2], rfl, Rp.mono (s1.trans nn) _ r1, x2, [], rfl, Rp.mono (s1.trans nn) _ r2, rfl⟩
  · rw [e, hn]
    exact w.stops H (hG H (s1.trans s2))
theorem ei_enum {m : Option (List α)} (h : Ev p false te env m) : EvI p (iEnum p.K (tCons te tNil)) env (m.bind fun xs => some (enumL xs)) := fun ys e G0 H0 σ G H s R k => by
  obtain ⟨xs, e1, e⟩ := bind_some e
  cases e
  refine h xs e1 G0 H0 σ G H s _ fun v G1 H1 g1 r1 => ?_
  obtain ⟨a, vs, rfl, h1, h2⟩ := r1
  refine ⟨a, vs, rfl, .of (g1.s _ _ h1), k _ G1 H1 g1 (itd_pair (n := vs.length) walk_enum ?_ (fun H s => .of (s _ _ h1)) fun i d q => ?_)⟩
  · rw [List.length_map, enumL_len, ← h2.length, List.length_map]
  · obtain ⟨x, q1, rfl⟩ := enumL_get q
    refine ⟨_, _, rfl, fun v1 v2 e1 e2 => ?_⟩
    cases e1
    obtain ⟨v, q2, q3⟩ := h2.get (i := i) (d := enc x) (by rw [List.getElem?_map, q1]; rfl)
    rw [q2] at e2; cases e2
    exact ⟨rfl, q3⟩
theorem zip_get {xs : List α} {ys : List β} {i : Nat} {d : D} (h : ((xs.zip ys).map enc)[i]? = some d) : ∃ x y, xs[i]? = some x ∧ ys[i]? = some y ∧ d = .tup [enc x, enc y] := by
  rw [List.getElem?_map] at h
  cases q : (xs.zip ys)[i]? with
  | none => rw [q] at h; cases h
  | some z =>
    rw [q] at h
    cases h
    obtain ⟨h1, h2⟩ := List.getElem?_zip_eq_some.mp q
    exact ⟨z.1, z.2, h1, h2, rfl⟩
theorem ei_zip {ma : Option (List α)} {mb : Option (List β)} (ha : Ev p false ta env ma) (hb : Ev p false tb env mb) : EvI p (iZip p.K (tCons ta (tCons tb tNil))) env (ma.bind fun xs => mb.bind fun ys => some (xs.zip ys)) := fun zs e G0 H0 σ G H s R k => by
  obtain ⟨xs, e1, e⟩ := bind_some e
  obtain ⟨ys, e2, e⟩ := bind_some e
  cases e
  refine ha xs e1 G0 H0 σ G H s _ fun v G1 H1 g1 r1 => hb ys e2 G0 H0 σ G1 H1 (s.step g1) _ fun w G2 H2 g2 r2 => ?_
  obtain ⟨a, vs, rfl, h1, h2⟩ := r1
  obtain ⟨b, ws, rfl, h3, h4⟩ := r2
  have h1' := g2.g _ _ h1
  refine ⟨a, b, vs, ws, rfl, .of (g2.s _ _ h1'), .of (g2.s _ _ h3), k _ G2 H2 (g1.trans g2) (itd_pair (walk_zip rfl) ?_ (fun H s => ⟨.of (s _ _ h1'), .of (s _ _ h3)⟩) fun i d q => ?_)⟩
  · have l1 := h2.length
    have l2 := h4.length
    rw [List.length_map] at l1 l2
    rw [List.length_map, List.length_zip, l1, l2]
  · obtain ⟨x, y, q1, q2, rfl⟩ := zip_get q
    refine ⟨_, _, rfl, fun v1 v2 e1 e2 => ?_⟩
    obtain ⟨u, q3, q4⟩ := h2.get (i := i) (d := enc x) (by rw [List.getElem?_map, q1]; rfl)
    obtain ⟨u', q5, q6⟩ := h4.get (i := i) (d := enc y) (by rw [List.getElem?_map, q2]; rfl)
    rw [q3] at e1; cases e1
    rw [q5] at e2; cases e2
    exact ⟨Rp.mono g2.g _ q4, q6⟩

/-! ### targets -/
def Tg (p : Pm) (g : TG) (d : D) (env env' : List Sl) (js : List Nat) : Prop :=
  ∀ G0 H0 σ G H v, Sts p G0 H0 env σ G H → Rp p G d v → ∀ Q : St → Hp → Prop, (∀ σ', Sts p G0 H0 env' σ' G H → (∀ vs : List Nat, (∀ j ∈ js, j ∈ vs) → wipe σ' vs = wipe σ vs) → Q σ' H) → g v σ H Q
theorem wipe_out1 {x : Option V} : ∀ {vs : List Nat} {σ : St} {j : Nat}, j ∈ vs → wipe (σ.set j x) vs = wipe σ vs
  | [], _, _, h => by cases h
  | v :: vs, σ, j, h => by
    unfold wipe
    by_cases c : j ∈ vs
    · rw [wipe_out1 c]
    · have : j = v := by
        rcases List.mem_cons.mp h with e | e
        · exact e
        · exact absurd e c
      subst this
      have comm : ∀ ws : List Nat, j ∉ ws → wipe (σ.set j x) ws = (wipe σ ws).set j x := fun ws => by
        induction ws with
        | nil => intro _; rfl
        | cons w ws ih =>
          intro hn
          unfold wipe
          rw [ih fun q => hn (List.mem_cons_of_mem _ q), List.set_comm]
          intro q
          exact hn (by rw [q]; exact List.mem_cons_self)
      rw [comm vs c, List.set_set]
theorem wipe_wipe (σ : St) : ∀ vs : List Nat, wipe (wipe σ vs) vs = wipe σ vs := fun vs => by
  have gen : ∀ ws : List Nat, (∀ w ∈ ws, w ∈ vs) → wipe (wipe σ ws) vs = wipe σ vs := fun ws => by
    induction ws with
    | nil => intro _; rfl
    | cons w ws ih =>
      intro h
      show wipe ((wipe σ ws).set w none) vs = wipe σ vs
      rw [wipe_out1 (h w List.mem_cons_self), ih fun q hq => h q (List.mem_cons_of_mem _ hq)]
  exact gen vs fun _ h => h
theorem tg_name {j : Nat} {d : D} : Tg p (gName j) d env (env.set j (.va d)) [j] := fun G0 H0 σ G H v s r Q k =>
  k _ (s.set_va r) fun vs h => wipe_out1 (h j (by simp))
def Tgs (p : Pm) (g : TGs) (ds : List D) (env env' : List Sl) (js : List Nat) : Prop :=
  ∀ G0 H0 σ G H vs, Sts p G0 H0 env σ G H → RpA p G ds vs → ∀ Q : St → Hp → Prop, (∀ σ', Sts p G0 H0 env' σ' G H → (∀ vs : List Nat, (∀ j ∈ js, j ∈ vs) → wipe σ' vs = wipe σ vs) → Q σ' H) → g vs σ H Q
theorem tgs_nil : Tgs p gNil [] env env [] := fun G0 H0 σ G H vs s r Q k => ⟨r, k σ s fun _ _ => rfl⟩
theorem tgs_cons {g : TG} {gs : TGs} {d : D} {ds : List D} {e1 e2 : List Sl} {js ks : List Nat} (h : Tg p g d env e1 js) (t : Tgs p gs ds e1 e2 ks) : Tgs p (gCons g gs) (d :: ds) env e2 (js ++ ks) := fun G0 H0 σ G H vs s r Q k => by
  obtain ⟨v, ws, rfl, r1, r2⟩ := r
  refine ⟨v, ws, rfl, h G0 H0 σ G H v s r1 _ fun σ1 s1 w1 => t G0 H0 σ1 G H ws s1 r2 _ fun σ2 s2 w2 => k σ2 s2 fun us hu => ?_⟩
  rw [w2 us fun j hj => hu j (List.mem_append_right _ hj), w1 us fun j hj => hu j (List.mem_append_left _ hj)]
theorem tg_tup {n : Nat} {gs : TGs} {ds : List D} {e2 : List Sl} {js : List Nat} (t : Tgs p gs ds env e2 js) (hn : ds.length = n := by rfl) : Tg p (gTup p.K n gs) (.tup ds) env e2 js := fun G0 H0 σ G H v s r Q k => by
  obtain ⟨a, vs, rfl, h1, h2⟩ := r
  exact ⟨a, vs, rfl, .of (s.gr.s _ _ h1), by rw [← h2.length, hn], t G0 H0 σ G H vs s h2 Q k⟩

/-! ### comprehensions -/
def lcM (c : α → Option Bool) (f : α → Option β) : List α → Option (List β)
  | [] => some []
  | x :: xs => (c x).bind fun b => if b = true then (f x).bind fun y => (lcM c f xs).bind fun ys => some (y :: ys) else lcM c f xs
def lc? (c : α → Option Bool) (f : α → Option β) (xs : List α) : Option (List β) := if xs.length ≤ 100000 then lcM c f xs else none
def wipeE (env : List Sl) : List Nat → List Sl
  | [] => env
  | v :: vs => (wipeE env vs).set v .fr
theorem Sts.wipe1 {G0 H0 G H : Hp} {σ : St} (s : Sts p G0 H0 env σ G H) (j : Nat) : Sts p G0 H0 (env.set j .fr) (σ.set j none) G H := by
  obtain ⟨Fs, f⟩ := s.rs
  refine ⟨s.gr, by simp [s.len], fun i d e => ?_, Fs, fun i r e => ?_, fun i k r r' a o n e e' => ?_⟩
  · rcases set_get e with ⟨_, q, _⟩ | ⟨n, e⟩
    · cases q
    · rw [List.getElem?_set_ne n]; exact s.va i d e
  · rcases set_get e with ⟨_, q, _⟩ | ⟨n, e⟩
    · cases q
    · rw [List.getElem?_set_ne n]; exact f.wh i r e
  · rcases set_get e with ⟨_, q, _⟩ | ⟨_, e⟩
    · cases q
    · rcases set_get e' with ⟨_, q, _⟩ | ⟨_, e'⟩
      · cases q
      · exact f.ap i k r r' a o n e e'
theorem Sts.wipes {G0 H0 G H : Hp} {σ : St} (s : Sts p G0 H0 env σ G H) : ∀ vs : List Nat, Sts p G0 H0 (wipeE env vs) (wipe σ vs) G H
  | [] => s
  | v :: vs => (s.wipes vs).wipe1 v
theorem Gr.mut {G G' H H' : Hp} {q : Addr} {o : HO} (g : Gr G G' H H') (h : H q = none) (k : G' q = none) : Gr G G' H (upd H' q o) :=
  ⟨g.g, fun a u e => by rw [upd_ne (ne_of_none e k)]; exact g.s _ _ e, fun a u e => by rw [upd_ne (ne_of_none e h)]; exact g.h _ _ e, g.n⟩
theorem et_yes : EvT p tYes env (some true) := fun x e G0 H0 σ G H s Q k => by
  cases e
  exact k G H (.refl s.gr.s)
theorem ev_lc {wi : TI} {g : TG} {tt : TT} {vs js : List Nat} {mx : Option (List α)} {c : α → Option Bool} {f : α → Option β} {envI : α → List Sl} (hi : EvI p wi env mx) (hg : ∀ x, Tg p g (enc x) (wipeE env vs) (envI x) js) (hj : ∀ j ∈ js, j ∈ vs)
    (ht : ∀ x, EvT p tt (envI x) (c x)) (he : ∀ x, Ev p false te (envI x) (f x)) : Ev p true (tLc wi g tt te vs) env (mx.bind fun xs => lc? c f xs) := fun z e G0 H0 σ G H s Q k => by
  obtain ⟨xs, e1, e⟩ := bind_some e
  unfold lc? at e
  split at e
  · rename_i hlen
    refine hi xs e1 G0 H0 σ G H s _ fun J G1 H1 g1 it => fun Dl hD => ?_
    have s1 := s.step g1
    have hn0 := g1.s.free hD
    refine ⟨fun i m H' => m = xs.length - i ∧ i ≤ xs.length ∧ ∃ G' acc ys zs, Gr G1 G' H1 H' ∧ G' Dl = none ∧ H' Dl = some (.lst acc) ∧ RpA p G' (ys.map enc) acc ∧ ys.length ≤ i ∧ lcM c f (xs.drop i) = some zs ∧ z = ys ++ zs,
      ⟨_, rfl, Nat.zero_le _, G1, [], [], z, (Gr.refl g1.s).mut hD hn0, hn0, upd_same, show RpA p G1 (([] : List β).map enc) [] from rfl, Nat.le_refl _, e, rfl⟩, ?_⟩
    rintro i m H' ⟨rfl, hle, G', acc, ys, zs, g2, hG, hA, rA, hy, hz, ez⟩
    obtain ⟨go, stop⟩ := it G' H' g2.g g2.s i
    by_cases hlt : i < xs.length
    · have hx : xs[i]? = some xs[i] := by simp [hlt]
      obtain ⟨gi, yi⟩ := go (enc xs[i]) (by rw [List.getElem?_map, hx]; rfl)
      rw [List.drop_eq_getElem_cons hlt] at hz
      obtain ⟨b, hc, hz⟩ := bind_some hz
      refine .inr ⟨gi, fun H'' => ∃ G'' acc ys zs, Gr G1 G'' H1 H'' ∧ G'' Dl = none ∧ H'' Dl = some (.lst acc) ∧ RpA p G'' (ys.map enc) acc ∧ ys.length ≤ i + 1 ∧ lcM c f (xs.drop (i + 1)) = some zs ∧ z = ys ++ zs,
        fun H'' q => ⟨xs.length - (i + 1), by omega, rfl, hlt, q⟩, fun x H2 y => ?_⟩
      obtain ⟨G2, g3, r3⟩ := yi x H2 y
      have g23 := g2.trans g3
      have s2 := (s1.step g23).wipes vs
      have none_of : ∀ {Ga Gb Ha Hb : Hp}, Gr Ga Gb Ha Hb → Ga Dl = none → (∃ o, Ha Dl = some o) → Gb Dl = none := fun {Ga Gb Ha Hb} q h1 ⟨o, h2⟩ => by
        cases w : Gb Dl with
        | none => rfl
        | some u =>
          have := q.n Dl u w h1
          rw [h2] at this; cases this
      have hG2 := none_of g3 hG ⟨_, hA⟩
      have hA2 := g3.h _ _ hA
      refine hg xs[i] G0 H0 (wipe σ vs) G2 H2 x s2 r3 _ fun σ' s3 w3 => ⟨?_, ?_⟩
      · rw [w3 vs hj, wipe_wipe]
      · refine ht xs[i] b hc G0 H0 σ' G2 H2 s3 _ fun G3 H3 g4 => ?_
        have hG3 := none_of g4 hG2 ⟨_, hA2⟩
        have hA3 := g4.h _ _ hA2
        cases b with
        | false => exact ⟨G3, acc, ys, zs, g23.trans g4, hG3, hA3, RpA.mono (g3.g.trans g4.g) _ rA, Nat.le_succ_of_le hy, hz, ez⟩
        | true =>
          obtain ⟨y1, hf, hz⟩ := bind_some hz
          obtain ⟨zs', hzs, hz⟩ := bind_some hz
          cases hz
          refine he xs[i] y1 hf G0 H0 σ' G3 H3 (s3.step g4) _ fun u G4 H4 g5 r5 => ⟨acc, g5.h _ _ hA3, ?_, ?_⟩
          · have l1 := rA.length
            rw [List.length_map] at l1
            exact Nat.lt_of_le_of_lt (show acc.length ≤ 100000 by omega) (by decide)
          · have hG4 := none_of g5 hG3 ⟨_, hA3⟩
            refine ⟨G4, acc ++ [u], ys ++ [y1], zs', ((g23.trans g4).trans g5).mut hD hG4, hG4, upd_same, ?_, by simp; omega, hzs, by simp [ez]⟩
            rw [List.map_append]
            exact (RpA.mono ((g3.g.trans g4.g).trans g5.g) _ rA).append (.cons r5 .nil)
    · have ei : i = xs.length := by omega
      subst ei
      rw [List.drop_length] at hz
      cases hz
      rw [List.append_nil] at ez
      subst ez
      refine .inl ⟨stop (by simp) (by simp), ?_⟩
      exact k _ G' H' (g1.trans g2) ⟨Dl, acc, z.map enc, rfl, rfl, g1.h.free hD, hG, hA, rA⟩
  · cases e

/-! ### calls of defs -/
def spF (p : Pm) (nw : Bool) {ρ : Type} (ea : ρ → List D) (f : ρ → Option γ) : Sp := fun vs H Q _ => ∃ G x z, Same G H ∧ RpA p G (ea x) vs ∧ f x = some z ∧ ∀ v G' H', Gr G G' H H' → Res p nw H G' H' (enc z) v → Q v H'
def sp1 (p : Pm) (nw : Bool) (f : α → Option γ) : Sp := spF p nw (fun x => [enc x]) f
def sp2 (p : Pm) (nw : Bool) (f : α → β → Option γ) : Sp := spF p nw (fun x : α × β => [enc x.1, enc x.2]) fun x => f x.1 x.2
def sp3 (p : Pm) (nw : Bool) (f : α → β → δ → Option γ) : Sp := spF p nw (fun x : α × β × δ => [enc x.1, enc x.2.1, enc x.2.2]) fun x => f x.1 x.2.1 x.2.2
theorem res_back {nw : Bool} {H H1 G' H' : Hp} {d : D} {v : V} (s : Same H H1) (r : Res p nw H1 G' H' d v) : Res p nw H G' H' d v := by
  cases nw with
  | false => exact r
  | true =>
    obtain ⟨l, vs, ds, q1, q2, q3, q4⟩ := r
    exact ⟨l, vs, ds, q1, q2, s.free q3, q4⟩
theorem ev_call1 {nw : Bool} {f : α → Option γ} {E : XK} {ma : Option α} (ha : Ev p false ta env ma) : Ev p nw (tCall (sp1 p nw f) [] E (tCons ta tNil)) env (ma.bind fun x => f x) := fun z e G0 H0 σ G H s Q k => by
  obtain ⟨x, e1, e⟩ := bind_some e
  refine ha x e1 G0 H0 σ G H s _ fun v G1 H1 g1 r1 => ?_
  exact ⟨G1, x, z, g1.s, ⟨v, [], rfl, r1, rfl⟩, e, fun u G2 H2 g2 r2 => k u G2 H2 (g1.trans g2) (res_back g1.h r2)⟩
theorem ev_call2 {nw : Bool} {f : α → β → Option γ} {E : XK} {ma : Option α} {mb : Option β} (ha : Ev p false ta env ma) (hb : Ev p false tb env mb) : Ev p nw (tCall (sp2 p nw f) [] E (tCons ta (tCons tb tNil))) env (ma.bind fun x => mb.bind fun y => f x y) := fun z e G0 H0 σ G H s Q k => by
  obtain ⟨x, e1, e⟩ := bind_some e
  obtain ⟨y, e2, e⟩ := bind_some e
  refine ha x e1 G0 H0 σ G H s _ fun v G1 H1 g1 r1 => hb y e2 G0 H0 σ G1 H1 (s.step g1) _ fun w G2 H2 g2 r2 => ?_
  exact ⟨G2, (x, y), z, g2.s, ⟨v, [w], rfl, Rp.mono g2.g _ r1, w, [], rfl, r2, rfl⟩, e, fun u G3 H3 g3 r3 => k u G3 H3 ((g1.trans g2).trans g3) (res_back (g1.trans g2).h r3)⟩
theorem ev_call3 {nw : Bool} {f : α → β → δ → Option γ} {E : XK} {ma : Option α} {mb : Option β} {mc : Option δ} (ha : Ev p false ta env ma) (hb : Ev p false tb env mb) (hc : Ev p false tc env mc) :
    Ev p nw (tCall (sp3 p nw f) [] E (tCons ta (tCons tb (tCons tc tNil)))) env (ma.bind fun x => mb.bind fun y => mc.bind fun w => f x y w) := fun z e G0 H0 σ G H s Q k => by
  obtain ⟨x, e1, e⟩ := bind_some e
  obtain ⟨y, e2, e⟩ := bind_some e
  obtain ⟨x3, e3, e⟩ := bind_some e
  refine ha x e1 G0 H0 σ G H s _ fun v G1 H1 g1 r1 => hb y e2 G0 H0 σ G1 H1 (s.step g1) _ fun w G2 H2 g2 r2 => hc x3 e3 G0 H0 σ G2 H2 ((s.step g1).step g2) _ fun u G3 H3 g3 r3 => ?_
  exact ⟨G3, (x, y, x3), z, g3.s, ⟨v, [w, u], rfl, Rp.mono (g2.g.trans g3.g) _ r1, w, [u], rfl, Rp.mono g3.g _ r2, u, [], rfl, r3, rfl⟩, e, fun u' G4 H4 g4 r4 => k u' G4 H4 (((g1.trans g2).trans g3).trans g4) (res_back ((g1.trans g2).trans g3).h r4)⟩
end
end PU

set_option Elab.async false
set_option maxRecDepth 100000
set_option linter.all false
/-! PU4: statements, loops, defs. -/
namespace PU
open PySem L2
open Enc

structure Post (ρ : Type) where
  P : ρ → Hp → Hp → Hp → Ends → Prop
  mono : ∀ {r G0 H0 G G1 D}, Same G G1 → P r G0 H0 G D → P r G0 H0 G1 D
/-- the block t does m: whatever m holds, t reaches what is wanted of it -/
def Bk (p : Pm) (t : TS) (env : List Sl) {ρ : Type} (m : Option ρ) (Po : Post ρ) : Prop :=
  ∀ r, m = some r → ∀ G0 H0 σ G H, Sts p G0 H0 env σ G H → ∀ D : Ends, Po.P r G0 H0 G D → t D σ H
/-- it returns -/
def pR (p : Pm) (nw : Bool) (β : Type) [Enc β] : Post β where
  P := fun y G0 H0 _ D => ∀ v G' H', Gr G0 G' H0 H' → Res p nw H0 G' H' (enc y) v → D.rt v H'
  mono := fun _ h => h
/-- it goes on, the slots as told -/
def pN (p : Pm) {s : Type} (envN : s → List Sl) : Post s where
  P := fun x G0 H0 G D => ∀ σ' G' H', Sts p G0 H0 (envN x) σ' G' H' → Same G G' → D.nx σ' H'
  mono := fun e h σ' G' H' s q => h σ' G' H' s (e.trans q)
/-- it ends, whatever the slots -/
def pU : Post Unit where
  P := fun _ G0 H0 _ D => ∀ σ' G' H', Gr G0 G' H0 H' → D.nx σ' H'
  mono := fun _ h => h
inductive Rr (s β : Type) where
  | nx (x : s)
  | rt (y : β)
def Rr.goR {s β : Type} (rest : s → Option β) : Rr s β → Option β
  | .nx x => rest x
  | .rt y => some y
def Rr.goB {s s' β : Type} (rest : s → Option (Rr s' β)) : Rr s β → Option (Rr s' β)
  | .nx x => rest x
  | .rt y => some (.rt y)
/-- the one or the other -/
def pB (p : Pm) (nw : Bool) {s β : Type} [Enc β] (envN : s → List Sl) : Post (Rr s β) where
  P := fun r G0 H0 G D => match r with
    | .nx x => (pN p envN).P x G0 H0 G D
    | .rt y => (pR p nw β).P y G0 H0 G D
  mono := fun {r _ _ _ _ _} e h => match r with
    | .nx _ => (pN p envN).mono e h
    | .rt _ => h
/-- what a value becomes in a slot -/
def sl (nw : Bool) (d : D) : Sl := match nw, d with
  | true, .lst ds => .ow ds
  | _, d => .va d

section
variable {p : Pm} {env env' : List Sl} {ta tb tc te : TE} {t u tz : TS} {α β γ ρ s s' : Type} [Enc α] [Enc β] [Enc γ] {Po : Post ρ}
theorem Sts.set_res {G0 H0 G H G' H' : Hp} {σ : St} {i : Nat} {nw : Bool} {d : D} {v : V} (st : Sts p G0 H0 env σ G H) (g : Gr G G' H H') (r : Res p nw H G' H' d v) : Sts p G0 H0 (env.set i (sl nw d)) (σ.set i (some v)) G' H' := by
  cases nw with
  | false =>
    have e : sl false d = .va d := by unfold sl; cases d <;> rfl
    rw [e]
    exact (st.step g).set_va r
  | true =>
    obtain ⟨l, vs, ds, rfl, rfl, h1, h2, h3, h4⟩ := r
    refine st.set_rs (F := sing l (.lst vs)) g ⟨l, vs, rfl, rfl, h4⟩ (fun a o q => ?_) fun a o q => ?_
    · obtain ⟨rfl, rfl⟩ := sing_iff.mp q
      exact h3
    · obtain ⟨rfl, rfl⟩ := sing_iff.mp q
      exact ⟨h1, h2⟩
theorem k_asg {nw : Bool} {i : Nat} {me : Option α} {rest : α → Option ρ} (h : Ev p nw te env me) (k : ∀ x, Bk p tz (env.set i (sl nw (enc x))) (rest x) Po) : Bk p (tSeq (tAsg te (gName i)) tz) env (me.bind rest) Po := fun r e G0 H0 σ G H st D q => by
  obtain ⟨x, e1, e⟩ := bind_some e
  refine h x e1 G0 H0 σ G H st _ fun v G1 H1 g1 r1 => ?_
  exact k x r e G0 H0 _ G1 H1 (st.set_res g1 r1) D (Po.mono g1.g q)
/-- a, b = x, y -/
theorem k_par {ni nj : Bool} {i j : Nat} {ma : Option α} {mb : Option β} {rest : α → β → Option ρ} (ha : Ev p ni ta env ma) (hb : Ev p nj tb env mb) (k : ∀ x y, Bk p tz ((env.set i (sl ni (enc x))).set j (sl nj (enc y))) (rest x y) Po) :
    Bk p (tSeq (tPar i j (tCons ta (tCons tb tNil))) tz) env (ma.bind fun x => mb.bind fun y => rest x y) Po := fun r e G0 H0 σ G H st D q => by
  obtain ⟨x, e1, e⟩ := bind_some e
  obtain ⟨y, e2, e⟩ := bind_some e
  refine ha x e1 G0 H0 σ G H st _ fun v G1 H1 g1 r1 => hb y e2 G0 H0 σ G1 H1 (st.step g1) _ fun w G2 H2 g2 r2 => ⟨v, w, rfl, ?_⟩
  refine k x y r e G0 H0 _ G2 H2 ?_ D (Po.mono (g1.trans g2).g q)
  have back : Res p ni H G2 H2 (enc x) v := by
    cases ni with
    | false => exact Rp.mono g2.g _ r1
    | true =>
      obtain ⟨l, vs, ds, q1, q2, q3, q4, q5, q6⟩ := r1
      refine ⟨l, vs, ds, q1, q2, q3, ?_, g2.h _ _ q5, RpA.mono g2.g _ q6⟩
      cases z : G2 l with
      | none => rfl
      | some u =>
        have := g2.n l u z q4
        rw [q5] at this; cases this
  have s1 : Sts p G0 H0 (env.set i (sl ni (enc x))) (σ.set i (some v)) G1 H1 := st.set_res g1 r1
  exact s1.set_res g2 r2
/-- the same by a tuple, and unpacked -/
theorem k_tup {i j : Nat} {ma : Option α} {mb : Option β} {rest : α → β → Option ρ} (ha : Ev p false ta env ma) (hb : Ev p false tb env mb) (k : ∀ x y, Bk p tz ((env.set i (.va (enc x))).set j (.va (enc y))) (rest x y) Po) :
    Bk p (tSeq (tAsg (tTup (tCons ta (tCons tb tNil))) (gTup p.K 2 (gCons (gName i) (gCons (gName j) gNil)))) tz) env (ma.bind fun x => mb.bind fun y => rest x y) Po := fun r e G0 H0 σ G H st D q => by
  obtain ⟨x, e1, e⟩ := bind_some e
  obtain ⟨y, e2, e⟩ := bind_some e
  show tTup (tCons ta (tCons tb tNil)) σ H fun x H1 => gTup p.K 2 (gCons (gName i) (gCons (gName j) gNil)) x σ H1 (tz D)
  refine ev_tup2 ha hb (x, y) (by rw [e1, e2]; rfl) G0 H0 σ G H st _ fun v G1 H1 g1 r1 => ?_
  refine tg_tup (tgs_cons tg_name (tgs_cons tg_name tgs_nil)) rfl G0 H0 σ G1 H1 v (st.step g1) r1 _ fun σ' s' _ => ?_
  exact k x y r e G0 H0 σ' G1 H1 s' D (Po.mono g1.g q)
/-- a, b = e -/
theorem k_unp {g : TG} {js : List Nat} {me : Option α} {rest : α → Option ρ} {envK : α → List Sl} (h : Ev p false te env me) (hg : ∀ x, Tg p g (enc x) env (envK x) js) (k : ∀ x, Bk p tz (envK x) (rest x) Po) : Bk p (tSeq (tAsg te g) tz) env (me.bind rest) Po := fun r e G0 H0 σ G H st D q => by
  obtain ⟨x, e1, e⟩ := bind_some e
  refine h x e1 G0 H0 σ G H st _ fun v G1 H1 g1 r1 => ?_
  exact hg x G0 H0 σ G1 H1 v (st.step g1) r1 _ fun σ' s' _ => k x r e G0 H0 σ' G1 H1 s' D (Po.mono g1.g q)
/-- x += e -/
theorem k_aug {i : Nat} {f : Int → Int → Int} {a : Int} {me : Option Int} {rest : Int → Option ρ} (h0 : env[i]? = some (.va (.int a))) (h : Ev p false te env me) (k : ∀ x, Bk p tz (env.set i (.va (.int (f a x)))) (rest (f a x)) Po) : Bk p (tSeq (tAug i te (ipI f)) tz) env (me.bind fun x => rest (f a x)) Po := fun r e G0 H0 σ G H st D q => by
  obtain ⟨x, e1, e⟩ := bind_some e
  obtain ⟨v0, a1, a2⟩ := st.va i _ h0
  refine ⟨v0, a1, h x e1 G0 H0 σ G H st _ fun v G1 H1 g1 r1 => ?_⟩
  cases (show v0 = .int a from a2)
  cases (show v = .int x from r1)
  exact ⟨a, x, rfl, rfl, k x r e G0 H0 _ G1 H1 ((st.step g1).set_va rfl) D (Po.mono g1.g q)⟩
theorem k_drop {me : Option α} {rest : α → Option ρ} (h : Ev p false te env me) (k : ∀ x, Bk p tz env (rest x) Po) : Bk p (tSeq (tDrop te) tz) env (me.bind rest) Po := fun r e G0 H0 σ G H st D q => by
  obtain ⟨x, e1, e⟩ := bind_some e
  exact h x e1 G0 H0 σ G H st _ fun v G1 H1 g1 r1 => k x r e G0 H0 σ G1 H1 (st.step g1) D (Po.mono g1.g q)
theorem k_ret {nw : Bool} {me : Option β} (h : Ev p nw te env me) : Bk p (tRet te) env me (pR p nw β) := fun r e G0 H0 σ G H st D q =>
  h r e G0 H0 σ G H st _ fun v G1 H1 g1 r1 => q v G1 H1 (st.gr.trans g1) (res_back st.gr.h r1)
theorem k_retB {nw : Bool} {envN : s → List Sl} {me : Option β} (h : Ev p nw te env me) : Bk p (tRet te) env (me.bind fun y => some (Rr.rt y)) (pB p nw envN) := fun r e G0 H0 σ G H st D q => by
  obtain ⟨x, e1, e⟩ := bind_some e
  cases e
  exact k_ret h x e1 G0 H0 σ G H st D q
/-- what stands behind a return -/
theorem k_dead {me : Option ρ} (h : Bk p t env me Po) (hi : ∀ r G0 H0 G D D', Po.P r G0 H0 G D → D'.rt = D.rt → Po.P r G0 H0 G D') : Bk p (tSeq t tz) env me Po := fun r e G0 H0 σ G H st D q =>
  h r e G0 H0 σ G H st _ (hi r G0 H0 G D _ q rfl)
/-- the block's end -/
theorem k_end {envN : s → List Sl} {x : s} (h : leE env (envN x)) : Bk p tNext env (some x) (pN p envN) := fun r e G0 H0 σ G H st D q => by
  cases e
  exact q σ G H (st.le h) (.refl G)
theorem k_endB {nw : Bool} {envN : s → List Sl} {x : s} (h : leE env (envN x)) : Bk p tNext env (some (Rr.nx (β := β) x)) (pB p nw envN) := fun r e G0 H0 σ G H st D q => by
  cases e
  exact q σ G H (st.le h) (.refl G)
theorem k_endU : Bk p tNext env (some ()) pU := fun r e G0 H0 σ G H st D q => q σ G H st.gr
theorem k_never : Bk p tNever env (none : Option ρ) Po := fun r e => nomatch e
theorem k_seqNever : Bk p (tSeq tNever tz) env (none : Option ρ) Po := fun r e => nomatch e
theorem k_le (h : leE env env') {m : Option ρ} (k : Bk p t env' m Po) : Bk p t env m Po := fun r e G0 H0 σ G H st D q => k r e G0 H0 σ G H (st.le h) D q
/-- the list in slot i is no more changed -/
theorem k_freeze {i : Nat} {ds : List D} {m : Option ρ} (h : env[i]? = some (.ow ds)) (k : Bk p t (env.set i (.va (.lst ds))) m Po) : Bk p t env m Po := fun r e G0 H0 σ G H st D q =>
  st.freeze h fun G' sg s' => k r e G0 H0 σ G' H s' D (Po.mono sg q)
theorem k_if {tt : TT} {mc : Option Bool} {ma mb : Option ρ} (h : EvT p tt env mc) (h1 : Bk p t env ma Po) (h2 : Bk p u env mb Po) : Bk p (tIfS tt t u) env (mc.bind fun c => if c = true then ma else mb) Po := fun r e G0 H0 σ G H st D q => by
  obtain ⟨c, e1, e⟩ := bind_some e
  refine h c e1 G0 H0 σ G H st _ fun G1 H1 g1 => ?_
  cases c with
  | true => exact h1 r e G0 H0 σ G1 H1 (st.step g1) D (Po.mono g1.g q)
  | false => exact h2 r e G0 H0 σ G1 H1 (st.step g1) D (Po.mono g1.g q)
/-- an if whose first way returns (or is never gone), and what follows -/
theorem k_ifR {nw : Bool} {tt : TT} {mc : Option Bool} {ma mb : Option β} (h : EvT p tt env mc) (h1 : Bk p t env ma (pR p nw β)) (h2 : Bk p tz env mb (pR p nw β)) : Bk p (tSeq (tIfS tt t tNext) tz) env (mc.bind fun c => if c = true then ma else mb) (pR p nw β) := fun r e G0 H0 σ G H st D q => by
  obtain ⟨c, e1, e⟩ := bind_some e
  refine h c e1 G0 H0 σ G H st _ fun G1 H1 g1 => ?_
  cases c with
  | true => exact h1 r e G0 H0 σ G1 H1 (st.step g1) _ q
  | false => exact h2 r e G0 H0 σ G1 H1 (st.step g1) D q
theorem k_ifB {nw : Bool} {envN : s → List Sl} {tt : TT} {mc : Option Bool} {ma : Option β} {mb : Option (Rr s β)} (h : EvT p tt env mc) (h1 : Bk p t env ma (pR p nw β)) (h2 : Bk p tz env mb (pB p nw envN)) :
    Bk p (tSeq (tIfS tt t tNext) tz) env (mc.bind fun c => if c = true then ma.bind (fun y => some (Rr.rt y)) else mb) (pB p nw envN) := fun r e G0 H0 σ G H st D q => by
  obtain ⟨c, e1, e⟩ := bind_some e
  refine h c e1 G0 H0 σ G H st _ fun G1 H1 g1 => ?_
  cases c with
  | true =>
    obtain ⟨y, e2, e⟩ := bind_some e
    cases e
    exact h1 y e2 G0 H0 σ G1 H1 (st.step g1) _ q
  | false => exact h2 r e G0 H0 σ G1 H1 (st.step g1) D ((pB p nw envN).mono g1.g q)
/-- an if that raises, and what follows -/
theorem k_ifX {tt : TT} {mc : Option Bool} {mb : Option ρ} (h : EvT p tt env mc) (h2 : Bk p tz env mb Po) : Bk p (tSeq (tIfS tt t tNext) tz) env (mc.bind fun c => if c = true then none else mb) Po := fun r e G0 H0 σ G H st D q => by
  obtain ⟨c, e1, e⟩ := bind_some e
  refine h c e1 G0 H0 σ G H st _ fun G1 H1 g1 => ?_
  cases c with
  | true => cases e
  | false => exact h2 r e G0 H0 σ G1 H1 (st.step g1) D (Po.mono g1.g q)
/-- one behind another -/
theorem k_seq {envN : s → List Sl} {m1 : Option s} {rest : s → Option ρ} (h1 : Bk p t env m1 (pN p envN)) (h2 : ∀ x, Bk p tz (envN x) (rest x) Po) : Bk p (tSeq t tz) env (m1.bind rest) Po := fun r e G0 H0 σ G H st D q => by
  obtain ⟨x, e1, e⟩ := bind_some e
  exact h1 x e1 G0 H0 σ G H st _ fun σ' G' H' s' sg => h2 x r e G0 H0 σ' G' H' s' D (Po.mono sg q)
theorem k_seqR {nw : Bool} {envN : s → List Sl} {m1 : Option (Rr s β)} {rest : s → Option β} (h1 : Bk p t env m1 (pB p nw envN)) (h2 : ∀ x, Bk p tz (envN x) (rest x) (pR p nw β)) :
    Bk p (tSeq t tz) env (m1.bind (Rr.goR rest)) (pR p nw β) := fun r e G0 H0 σ G H st D q => by
  obtain ⟨x, e1, e⟩ := bind_some e
  cases x with
  | nx x => exact h1 (.nx x) e1 G0 H0 σ G H st _ fun σ' G' H' s' sg => h2 x r e G0 H0 σ' G' H' s' D q
  | rt z =>
    have ez : z = r := Option.some.inj e
    subst ez
    exact h1 (.rt z) e1 G0 H0 σ G H st _ q
theorem k_seqB {nw : Bool} {envN : s → List Sl} {envM : s' → List Sl} {m1 : Option (Rr s β)} {rest : s → Option (Rr s' β)} (h1 : Bk p t env m1 (pB p nw envN)) (h2 : ∀ x, Bk p tz (envN x) (rest x) (pB p nw envM)) :
    Bk p (tSeq t tz) env (m1.bind (Rr.goB rest)) (pB p nw envM) := fun r e G0 H0 σ G H st D q => by
  obtain ⟨x, e1, e⟩ := bind_some e
  cases x with
  | nx x => exact h1 (.nx x) e1 G0 H0 σ G H st _ fun σ' G' H' s' sg => h2 x r e G0 H0 σ' G' H' s' D ((pB p nw envM).mono sg q)
  | rt y =>
    cases e
    exact h1 (.rt y) e1 G0 H0 σ G H st _ q

/-! ### loops -/
def forS (f : s → α → Option s) : s → List α → Option s
  | x, [] => some x
  | x, a :: as => (f x a).bind fun y => forS f y as
def forB {β : Type} (f : s → α → Option (Rr s β)) : s → List α → Option (Rr s β)
  | x, [] => some (.nx x)
  | x, a :: as => (f x a).bind fun r => match r with
    | .nx y => forB f y as
    | .rt y => some (.rt y)
theorem k_for {wi : TI} {g : TG} {js : List Nat} {mx : Option (List α)} {f : s → α → Option s} {envS : s → List Sl} {envB : s → α → List Sl} {x0 : s} (hi : EvI p wi env mx) (h0 : leE env (envS x0)) (hg : ∀ x a, Tg p g (enc a) (envS x) (envB x a) js)
    (hb : ∀ x a, Bk p t (envB x a) (f x a) (pN p envS)) : Bk p (tFor wi g t) env (mx.bind fun xs => forS f x0 xs) (pN p envS) := fun r e G0 H0 σ G H st D q => by
  obtain ⟨xs, e1, e⟩ := bind_some e
  refine hi xs e1 G0 H0 σ G H st _ fun J G1 H1 g1 it => ?_
  refine ⟨fun i m σ' H' => m = xs.length - i ∧ i ≤ xs.length ∧ ∃ x G', forS f x (xs.drop i) = some r ∧ Sts p G0 H0 (envS x) σ' G' H' ∧ Same G1 G', ⟨_, rfl, Nat.zero_le _, x0, G1, e, (st.step g1).le h0, .refl _⟩, ?_⟩
  rintro i m σ' H' ⟨rfl, hle, x, G', hf, s', sg⟩
  obtain ⟨go, stop⟩ := it G' H' sg s'.gr.s i
  by_cases hlt : i < xs.length
  · have hx : xs[i]? = some xs[i] := by simp [hlt]
    obtain ⟨gi, yi⟩ := go (enc xs[i]) (by rw [List.getElem?_map, hx]; rfl)
    rw [List.drop_eq_getElem_cons hlt] at hf
    obtain ⟨y, hy, hf⟩ := bind_some hf
    refine .inr ⟨gi, fun σ2 H2 => ∃ x G', forS f x (xs.drop (i + 1)) = some r ∧ Sts p G0 H0 (envS x) σ2 G' H2 ∧ Same G1 G', fun σ2 H2 z => ⟨xs.length - (i + 1), by omega, rfl, hlt, z⟩, fun v H2 yv => ?_⟩
    obtain ⟨G2, g3, r3⟩ := yi v H2 yv
    refine hg x xs[i] G0 H0 σ' G2 H2 v (s'.step g3) r3 _ fun σ3 s3 _ => ?_
    have fin : ∀ σ4 G4 H4, Sts p G0 H0 (envS y) σ4 G4 H4 → Same G2 G4 → ∃ x G', forS f x (xs.drop (i + 1)) = some r ∧ Sts p G0 H0 (envS x) σ4 G' H4 ∧ Same G1 G' := fun σ4 G4 H4 s4 sg4 => ⟨y, G4, hf, s4, (sg.trans g3.g).trans sg4⟩
    exact hb x xs[i] y hy G0 H0 σ3 G2 H2 s3 _ fin
  · have ei : i = xs.length := by omega
    subst ei
    rw [List.drop_length] at hf
    cases hf
    exact .inl ⟨stop (by simp) (by simp), q σ' G' H' s' (g1.g.trans sg)⟩
theorem k_forB {nw : Bool} {wi : TI} {g : TG} {js : List Nat} {mx : Option (List α)} {f : s → α → Option (Rr s β)} {envS : s → List Sl} {envB : s → α → List Sl} {x0 : s} (hi : EvI p wi env mx) (h0 : leE env (envS x0)) (hg : ∀ x a, Tg p g (enc a) (envS x) (envB x a) js)
    (hb : ∀ x a, Bk p t (envB x a) (f x a) (pB p nw envS)) : Bk p (tFor wi g t) env (mx.bind fun xs => forB f x0 xs) (pB p nw envS) := fun r e G0 H0 σ G H st D q => by
  obtain ⟨xs, e1, e⟩ := bind_some e
  refine hi xs e1 G0 H0 σ G H st _ fun J G1 H1 g1 it => ?_
  refine ⟨fun i m σ' H' => m = xs.length - i ∧ i ≤ xs.length ∧ ∃ x G', forB f x (xs.drop i) = some r ∧ Sts p G0 H0 (envS x) σ' G' H' ∧ Same G1 G', ⟨_, rfl, Nat.zero_le _, x0, G1, e, (st.step g1).le h0, .refl _⟩, ?_⟩
  rintro i m σ' H' ⟨rfl, hle, x, G', hf, s', sg⟩
  obtain ⟨go, stop⟩ := it G' H' sg s'.gr.s i
  by_cases hlt : i < xs.length
  · have hx : xs[i]? = some xs[i] := by simp [hlt]
    obtain ⟨gi, yi⟩ := go (enc xs[i]) (by rw [List.getElem?_map, hx]; rfl)
    rw [List.drop_eq_getElem_cons hlt] at hf
    obtain ⟨y, hy, hf⟩ := bind_some hf
    refine .inr ⟨gi, fun σ2 H2 => ∃ x G', forB f x (xs.drop (i + 1)) = some r ∧ Sts p G0 H0 (envS x) σ2 G' H2 ∧ Same G1 G', fun σ2 H2 z => ⟨xs.length - (i + 1), by omega, rfl, hlt, z⟩, fun v H2 yv => ?_⟩
    obtain ⟨G2, g3, r3⟩ := yi v H2 yv
    refine hg x xs[i] G0 H0 σ' G2 H2 v (s'.step g3) r3 _ fun σ3 s3 _ => ?_
    refine hb x xs[i] y hy G0 H0 σ3 G2 H2 s3 _ ?_
    cases y with
    | nx y => exact fun σ4 G4 H4 s4 sg4 => ⟨y, G4, hf, s4, (sg.trans g3.g).trans sg4⟩
    | rt y =>
      cases hf
      exact q
  · have ei : i = xs.length := by omega
    subst ei
    rw [List.drop_length] at hf
    cases hf
    exact .inl ⟨stop (by simp) (by simp), q σ' G' H' s' (g1.g.trans sg)⟩
/-- a while that goes at most n times -/
def whS (c : s → Option Bool) (f : s → Option s) : Nat → s → Option s
  | 0, _ => none
  | n + 1, x => (c x).bind fun b => if b = true then (f x).bind fun y => whS c f n y else some x
theorem k_while {tt : TT} {c : s → Option Bool} {f : s → Option s} {envS : s → List Sl} {n : Nat} {x0 : s} (h0 : leE env (envS x0)) (hc : ∀ x, EvT p tt (envS x) (c x)) (hb : ∀ x, Bk p t (envS x) (f x) (pN p envS)) : Bk p (tWhile tt t) env (whS c f n x0) (pN p envS) := fun r e G0 H0 σ G H st D q => by
  refine ⟨fun m σ' H' => ∃ x G', whS c f m x = some r ∧ Sts p G0 H0 (envS x) σ' G' H' ∧ Same G G', ⟨n, x0, G, e, st.le h0, .refl _⟩, ?_⟩
  rintro m σ' H' ⟨x, G', hf, s', sg⟩
  cases m with
  | zero => cases hf
  | succ m =>
    obtain ⟨b, e1, hf⟩ := bind_some hf
    refine hc x b e1 G0 H0 σ' G' H' s' _ fun G1 H1 g1 => ?_
    cases b with
    | false =>
      cases hf
      exact q σ' G1 H1 (s'.step g1) (sg.trans g1.g)
    | true =>
      obtain ⟨y, e2, hf⟩ := bind_some hf
      show ∃ N : St → Hp → Prop, _
      refine ⟨fun σ2 H2 => ∃ x G', whS c f m x = some r ∧ Sts p G0 H0 (envS x) σ2 G' H2 ∧ Same G G', fun σ2 H2 z => ⟨m, Nat.lt_succ_self m, z⟩, ?_⟩
      have fin : ∀ σ4 G4 H4, Sts p G0 H0 (envS y) σ4 G4 H4 → Same G1 G4 → ∃ x G', whS c f m x = some r ∧ Sts p G0 H0 (envS x) σ4 G' H4 ∧ Same G G' := fun σ4 G4 H4 s4 sg4 => ⟨y, G4, hf, s4, (sg.trans g1.g).trans sg4⟩
      exact hb x y e2 G0 H0 σ' G1 H1 (s'.step g1) _ fin

/-! ### lists of one's own, changed -/
/-- the list in slot i is changed into ys -/
theorem Sts.put {G0 H0 G H : Hp} {σ : St} {i : Nat} {ds : List D} {Q : Prop} (st : Sts p G0 H0 env σ G H) (h : env[i]? = some (.ow ds))
    (k : ∀ l vs, σ[i]? = some (some (.ref l)) → H l = some (.lst vs) → RpA p G ds vs → G l = none → (∀ es ws, RpA p G es ws → Sts p G0 H0 (env.set i (.ow es)) σ G (upd H l (.lst ws))) → Q) : Q := by
  refine st.write h fun v F a1 a2 a3 a4 a5 => ?_
  obtain ⟨l, vs, rfl, rfl, h2⟩ := a2
  have hH : H l = some (.lst vs) := a3 _ _ upd_same
  refine k l vs a1 hH h2 (a4 l _ upd_same).1 fun es ws r => ?_
  have e : σ = σ.set i (some (.ref l)) := by
    have hi := (List.getElem?_eq_some_iff.mp a1)
    obtain ⟨hi, he⟩ := hi
    rw [← he, List.set_getElem_self]
  rw [e]
  refine a5 (own es) (.ref l) (sing l (.lst ws)) _ ⟨fun a o q => ?_, fun a q1 q2 => ?_, fun a o q1 q2 => ?_⟩ ⟨l, ws, rfl, rfl, r⟩
  · obtain ⟨rfl, rfl⟩ := sing_iff.mp q
    exact upd_same
  · have : a ≠ l := fun c => by
      subst c
      have z : sing a (HO.lst vs) a = none := q1
      rw [show sing a (HO.lst vs) a = some (.lst vs) from upd_same] at z; cases z
    exact upd_ne this
  · obtain ⟨rfl, rfl⟩ := sing_iff.mp q1
    rw [show sing a (HO.lst vs) a = some (.lst vs) from upd_same] at q2; cases q2
def app? (xs : List α) (x : α) : Option (List α) := if xs.length < 100000 then some (xs ++ [x]) else none
theorem k_app {i : Nat} {xs : List α} {me : Option α} {rest : List α → Option ρ} (h : env[i]? = some (.ow (xs.map enc))) (he : Ev p false te env me) (k : ∀ ys, Bk p tz (env.set i (.ow (ys.map enc))) (rest ys) Po) :
    Bk p (tSeq (tDrop (tBM p.K "list" rAppend (tVar i) (tCons te tNil))) tz) env (me.bind fun x => (app? xs x).bind rest) Po := fun r e G0 H0 σ G H st D q => by
  obtain ⟨x, e1, e⟩ := bind_some e
  obtain ⟨ys, e2, e⟩ := bind_some e
  unfold app? at e2
  split at e2
  · rename_i hl
    cases e2
    obtain ⟨Fs, f⟩ := st.rs
    obtain ⟨v, a1, ⟨l0, vs0, rfl, eF, h2⟩, a3, a4⟩ := f.wh i _ h
    refine ⟨.ref l0, a1, .inl ⟨rfl, _, .of (a3 _ _ (by rw [eF]; exact upd_same))⟩, ?_⟩
    refine he x e1 G0 H0 σ G H st _ fun u G1 H1 g1 r1 => ?_
    refine (st.step g1).put h fun l vs b1 b2 b3 _ b4 => ?_
    rw [a1] at b1; cases b1
    have l1 := b3.length
    rw [List.length_map] at l1
    refine ⟨l0, vs, u, rfl, rfl, b2, Nat.lt_of_le_of_lt (show vs.length ≤ 100000 by omega) (by decide), ?_⟩
    refine k (xs ++ [x]) r e G0 H0 σ G1 _ ?_ D (Po.mono g1.g q)
    rw [List.map_append]
    exact b4 _ _ (b3.append (.cons r1 .nil))
  · cases e2
/-- found.insert(i, x), i not below 0 -/
def insL (xs : List α) (i : Nat) (x : α) : List α := xs.take i ++ [x] ++ xs.drop i
def ins? (xs : List α) (i : Int) (x : α) : Option (List α) := if xs.length < 100000 ∧ 0 ≤ i ∧ i < 2 ^ 62 then some (insL xs i.toNat x) else none
def rIns : V → List V → Hp → VK → Prop := fun x vs H Q => ∃ (l : Addr) (xs : List V) (i : Int) (y : V), x = .ref l ∧ vs = [.int i, y] ∧ H l = some (.lst xs) ∧ xs.length < sizeLine ∧ 0 ≤ i ∧ i < 2 ^ 63 ∧
    Q .non (upd H l (.lst (xs.take i.toNat ++ [y] ++ xs.drop i.toNat)))
theorem k_ins {i : Nat} {xs : List α} {mi : Option Int} {me : Option α} {rest : List α → Option ρ} (h : env[i]? = some (.ow (xs.map enc))) (ha : Ev p false ta env mi) (he : Ev p false te env me) (k : ∀ ys, Bk p tz (env.set i (.ow (ys.map enc))) (rest ys) Po) :
    Bk p (tSeq (tDrop (tBM p.K "list" rIns (tVar i) (tCons ta (tCons te tNil)))) tz) env (mi.bind fun j => me.bind fun x => (ins? xs j x).bind rest) Po := fun r e G0 H0 σ G H st D q => by
  obtain ⟨j, e0, e⟩ := bind_some e
  obtain ⟨x, e1, e⟩ := bind_some e
  obtain ⟨ys, e2, e⟩ := bind_some e
  unfold ins? at e2
  split at e2
  · rename_i hl
    cases e2
    obtain ⟨Fs, f⟩ := st.rs
    obtain ⟨v, a1, ⟨l0, vs0, rfl, eF, h2⟩, a3, a4⟩ := f.wh i _ h
    refine ⟨.ref l0, a1, .inl ⟨rfl, _, .of (a3 _ _ (by rw [eF]; exact upd_same))⟩, ?_⟩
    refine ha j e0 G0 H0 σ G H st _ fun w G1 H1 g1 r1 => he x e1 G0 H0 σ G1 H1 (st.step g1) _ fun u G2 H2 g2 r2 => ?_
    cases (show w = .int j from r1)
    refine ((st.step g1).step g2).put h fun l vs b1 b2 b3 _ b4 => ?_
    rw [a1] at b1; cases b1
    have l1 := b3.length
    rw [List.length_map] at l1
    refine ⟨l0, vs, j, u, rfl, rfl, b2, Nat.lt_of_le_of_lt (show vs.length ≤ 100000 by omega) (by decide), hl.2.1, by omega, ?_⟩
    refine k (insL xs j.toNat x) r e G0 H0 σ G2 _ ?_ D (Po.mono (g1.trans g2).g q)
    unfold insL
    rw [List.map_append, List.map_append, List.map_take, List.map_drop]
    exact b4 _ _ (((b3.take _).append (.cons r2 .nil)).append (b3.drop _))
  · cases e2
/-- found[j] = x -/
def seti? (xs : List α) (i : Int) (x : α) : Option (List α) := (ixN xs.length i).map fun j => xs.set j x
theorem k_seti {i : Nat} {xs : List α} {mi : Option Int} {me : Option α} {rest : List α → Option ρ} (h : env[i]? = some (.ow (xs.map enc))) (he : Ev p false te env me) (ha : Ev p false ta env mi) (k : ∀ ys, Bk p tz (env.set i (.ow (ys.map enc))) (rest ys) Po) :
    Bk p (tSeq (tAsg te (gSub (tVar i) ta rSetL)) tz) env (me.bind fun x => mi.bind fun j => (seti? xs j x).bind rest) Po := fun r e G0 H0 σ G H st D q => by
  obtain ⟨x, e1, e⟩ := bind_some e
  obtain ⟨j, e0, e⟩ := bind_some e
  obtain ⟨ys, e2, e⟩ := bind_some e
  unfold seti? at e2
  cases hj : ixN xs.length j with
  | none => rw [hj] at e2; cases e2
  | some n =>
    rw [hj] at e2
    cases e2
    obtain ⟨Fs, f⟩ := st.rs
    obtain ⟨v, a1, ⟨l0, vs0, rfl, eF, h2⟩, a3, a4⟩ := f.wh i _ h
    refine he x e1 G0 H0 σ G H st _ fun u G1 H1 g1 r1 => ⟨.ref l0, a1, ?_⟩
    refine ha j e0 G0 H0 σ G1 H1 (st.step g1) _ fun w G2 H2 g2 r2 => ?_
    cases (show w = .int j from r2)
    refine ((st.step g1).step g2).put h fun l vs b1 b2 b3 _ b4 => ?_
    rw [a1] at b1; cases b1
    have l1 := b3.length
    rw [List.length_map] at l1
    refine ⟨l0, vs, j, n, rfl, rfl, b2, by rw [← l1]; exact hj, ?_⟩
    refine k (xs.set n x) r e G0 H0 σ G2 _ ?_ D (Po.mono (g1.trans g2).g q)
    rw [List.map_set]
    exact b4 _ _ (b3.set n (Rp.mono g2.g _ r1))

/-! ### defs -/
theorem sts_start {N : List Str} {G H : Hp} {ds : List D} {vs : List V} {n : Nat} (s : Same G H) (r : RpA p G ds vs) (hn : N.length = ds.length + n) : Sts p G H (ds.map Sl.va ++ List.replicate n .fr) (L2.start N vs) G H := by
  have hl := r.length
  refine ⟨.refl s, ?_, fun i d e => ?_, fun _ => nil, fun i r' e => ?_, fun i j r1 r2 a o _ e => ?_⟩
  · unfold L2.start
    simp
    omega
  · by_cases c : i < ds.length
    · rw [List.getElem?_append_left (by simpa using c), List.getElem?_map] at e
      cases q : ds[i]? with
      | none => rw [q] at e; cases e
      | some d' =>
        rw [q] at e
        cases e
        obtain ⟨v, h1, h2⟩ := r.get q
        refine ⟨v, ?_, h2⟩
        unfold L2.start
        rw [List.getElem?_append_left (by simp; omega), List.getElem?_map, h1]
        rfl
    · rw [List.getElem?_append_right (by simp; omega), List.getElem?_replicate] at e
      split at e <;> cases e
  · by_cases c : i < ds.length
    · rw [List.getElem?_append_left (by simpa using c), List.getElem?_map] at e
      cases q : ds[i]? with
      | none => rw [q] at e; cases e
      | some d' => rw [q] at e; cases e
    · rw [List.getElem?_append_right (by simp; omega), List.getElem?_replicate] at e
      split at e <;> cases e
  · by_cases c : i < ds.length
    · rw [List.getElem?_append_left (by simpa using c), List.getElem?_map] at e
      cases q : ds[i]? with
      | none => rw [q] at e; cases e
      | some d' => rw [q] at e; cases e
    · rw [List.getElem?_append_right (by simp; omega), List.getElem?_replicate] at e
      split at e <;> cases e
variable {P : Program} {w : World} {mg : Str → Option Value} {base : Heap}
/-- a def of a text: its body does what f tells -/
theorem def_ok {τ : Type} {nw : Bool} {ea : τ → List D} {f : τ → Option γ} {x qual : Str} {stm : Stmt} {fa : Addr} {fd : FuncData} {N ps : List Str} {k n : Nat} (F : Fun p.K x qual stm fa fd) (S : FnScope N ps (defScope stm)) (hps : ∀ a, (ea a).length = ps.length) (hN : N.length = ps.length + n)
    (body : ∀ (cdv : Value) (A : Around) (outer : List Env) (s : Shared) (H : Hp) (E : XK), Room k (A.deeper (PyProof.Rows.envOfC qual (defScope stm) s.heap.objs.size fa cdv)) →
      ∃ t, PSs (cxOf CX0 P w p.K mg base N qual (defScope stm) fa cdv A outer s H E).nox (defBody stm) t ∧ ∀ a, Bk p t ((ea a).map Sl.va ++ List.replicate n .fr) (f a) (pR p nw γ)) : FnOk P w p.K mg base CX0 (k + 1) fa fd ps (spF p nw ea f) := by
  refine F.ok S (fun vs H Q E h => ?_) fun cdv A outer s H vs Q E hr h => ?_
  · obtain ⟨G, a, z, _, r, _⟩ := h
    rw [← r.length, hps]
  · obtain ⟨G, a, z, sg, r, e, q⟩ := h
    obtain ⟨t, h1, h2⟩ := body cdv A outer s H E hr
    exact ⟨t, h1, h2 a z e G H _ G H (sts_start sg r (by rw [hN, hps])) _ q⟩
/-- a def that ends without a return -/
theorem def_okU {τ : Type} {ea : τ → List D} {f : τ → Option Unit} {x qual : Str} {stm : Stmt} {fa : Addr} {fd : FuncData} {N ps : List Str} {k n : Nat} (F : Fun p.K x qual stm fa fd) (S : FnScope N ps (defScope stm)) (hps : ∀ a, (ea a).length = ps.length) (hN : N.length = ps.length + n)
    (body : ∀ (cdv : Value) (A : Around) (outer : List Env) (s : Shared) (H : Hp) (E : XK), Room k (A.deeper (PyProof.Rows.envOfC qual (defScope stm) s.heap.objs.size fa cdv)) →
      ∃ t, PSs (cxOf CX0 P w p.K mg base N qual (defScope stm) fa cdv A outer s H E).nox (defBody stm) t ∧ ∀ a, Bk p t ((ea a).map Sl.va ++ List.replicate n .fr) (f a) pU) : FnOk P w p.K mg base CX0 (k + 1) fa fd ps (spF p false ea f) := by
  refine F.ok S (fun vs H Q E h => ?_) fun cdv A outer s H vs Q E hr h => ?_
  · obtain ⟨G, a, z, _, r, _⟩ := h
    rw [← r.length, hps]
  · obtain ⟨G, a, z, sg, r, e, q⟩ := h
    obtain ⟨t, h1, h2⟩ := body cdv A outer s H E hr
    exact ⟨t, h1, h2 a z e G H _ G H (sts_start sg r (by rw [hN, hps])) _ fun σ' G' H' g => q .non G' H' g rfl⟩
end
end PU

set_option Elab.async false
set_option maxRecDepth 100000
set_option linter.all false
/-! PU5: what the top has; calls by name; isinstance. -/
namespace PU
open PySem L2
open Enc

/-- the built-ins are not hidden -/
structure Blt (mg : Str → Option Value) : Prop where
  len : mg "len" = none
  sum : mg "sum" = none
  max : mg "max" = none
  min : mg "min" = none
  all : mg "all" = none
  any : mg "any" = none
  sorted : mg "sorted" = none
  list : mg "list" = none
  range : mg "range" = none
  enumerate : mg "enumerate" = none
  zip : mg "zip" = none
  isinstance : mg "isinstance" = none
  int : mg "int" = none
  bool : mg "bool" = none
  abs : mg "abs" = none
  set : mg "set" = none
  tuple : mg "tuple" = none
  str : mg "str" = none
theorem bs_len : bootBuiltins "len" = some (.builtin "len") := by decide +kernel
theorem bs_sum : bootBuiltins "sum" = some (.builtin "sum") := by decide +kernel
theorem bs_max : bootBuiltins "max" = some (.builtin "max") := by decide +kernel
theorem bs_min : bootBuiltins "min" = some (.builtin "min") := by decide +kernel
theorem bs_all : bootBuiltins "all" = some (.builtin "all") := by decide +kernel
theorem bs_any : bootBuiltins "any" = some (.builtin "any") := by decide +kernel
theorem bs_sorted : bootBuiltins "sorted" = some (.builtin "sorted") := by decide +kernel
theorem bs_isinstance : bootBuiltins "isinstance" = some (.builtin "isinstance") := by decide +kernel
theorem bs_abs : bootBuiltins "abs" = some (.builtin "abs") := by decide +kernel
theorem bs_list : bootBuiltins "list" = some (.type "list") := by decide +kernel
theorem bs_int : bootBuiltins "int" = some (.type "int") := by decide +kernel
theorem bs_bool : bootBuiltins "bool" = some (.type "bool") := by decide +kernel
theorem bs_tuple : bootBuiltins "tuple" = some (.type "tuple") := by decide +kernel
theorem bs_str : bootBuiltins "str" = some (.type "str") := by decide +kernel

/-- a def by its name: its promise, its place -/
structure Cal (P : Program) (w : World) (K : PySem.W.Frag) (mg : Str → Option Value) (base : Heap) (x : Str) (k : Nat) (ps : List Str) (sp : Sp) : Prop where
  ex : ∃ f fd, FnOk P w K mg base CX0 k f fd ps sp ∧ mg x = some (.ref f) ∧ PySem.W.keepIn K (.ref f) = true ∧ Binds K fd ps []
theorem pe_cal {X : Cx} {x : Str} {k : Nat} {ps : List Str} {sp : Sp} {p pos : Pos} {e : Expr} {es : List Expr} {t : TA} (c : Cal X.prog X.w X.K X.mg X.base x k ps sp) (hr : Room k X.A) (hg : Gl X x) (ha : PA X (e :: es) t)
    (hdb : (x == ("__debug__" : Str)) = false := by decide) (he : starEach (e :: es) X.env = (false, eval e X.env) :: starEach es X.env := by rfl) (hpl : (backTo pos (starEach es X.env)).any (·.1) = false := by rfl) :
    PE X (.Call (.Name x p) (e :: es) [] pos) (tCall sp [] E0 t) := by
  obtain ⟨f, fd, F, hm, hk, hb⟩ := c.ex
  exact pe_call F hr hg hm hk hb .nil pass0 ha hdb he hpl

/-! ### isinstance -/
class Ty (α : Type) [Enc α] where
  name : String
  ty : ∀ {p : Pm} {G H : Hp} {x : α} {v : V}, Same G H → Rp p G (enc x) v → TyX p.K H v (.type name)
instance : Ty Int := ⟨"int", fun _ h => by rw [show _ = V.int _ from h]; exact .base (.int _)⟩
instance {α : Type} [Enc α] : Ty (List α) := ⟨"list", fun s h => by
  obtain ⟨a, xs, rfl, h1, _⟩ := h
  exact .base (.lst (s _ _ h1))⟩
instance {α β : Type} [Enc α] [Enc β] : Ty (α × β) := ⟨"tuple", fun s h => by
  obtain ⟨a, xs, rfl, h1, _⟩ := h
  exact .base (.tup (s _ _ h1))⟩
instance : Ty Bool := ⟨"bool", fun _ h => by rw [show _ = V.bl _ from h]; exact .base (.bl _)⟩
section
variable {p : Pm} {env : List Sl} {ta tb tc te : TE} {α β : Type} [Enc α] [Enc β]
theorem ev_isi [Ty α] {ma : Option α} {n : String} {b : Bool} (h : Ev p false te env ma) (hb : kitB (Ty.name α) n = some b) : Ev p false (tCB (rIsi p.K) (tCons te (tCons (tC (.ty n)) tNil))) env (ma.bind fun _ => some b) := fun z e G0 H0 σ G H s Q k => by
  obtain ⟨x, e1, e⟩ := bind_some e
  cases e
  refine h x e1 G0 H0 σ G H s _ fun v G1 H1 g1 r1 => ?_
  exact ⟨v, .ty n, .type (Ty.name α), .type n, b, rfl, .ty n, Ty.ty g1.s r1, kit_ty hb, k _ G1 H1 g1 rfl⟩
end
end PU

/-! ### the layer's rules, the written part by its letter (inside a comprehension's block X.K is another term) -/
namespace PU
open PySem L2
section
variable {X : Cx} {K : PySem.W.Frag} {tg e e2 a b l : Expr} {te ta tb tl : TE} {t : TA} {pos p' q' tpos : Pos} {es : List Expr} {elts : List Expr} {kk : Nat}
theorem xi_list (K) (hl : PE X l tl) (hK : X.K = K := by rfl) : PI X tg l (iList K tl) := by subst hK; exact pi_list hl
theorem xi_tup (K) (hl : PE X l tl) (hK : X.K = K := by rfl) : PI X tg l (iTup K tl) := by subst hK; exact pi_tup hl
theorem xi_enum (K) (hg : Gl X "enumerate") (hm : X.mg "enumerate" = none) (ha : PA X [e] t) (hs : starEach [e] X.env = [(false, eval e X.env)] := by rfl) (hK : X.K = K := by rfl) : PI X (.Tuple elts kk tpos) (.Call (.Name "enumerate" p') [e] [] pos) (iEnum K t) := by
  subst hK; exact pi_enum hg hm ha hs
theorem xi_zip (K) (hg : Gl X "zip") (hm : X.mg "zip" = none) (ha : PA X [e, e2] t) (hs : starEach [e, e2] X.env = (false, eval e X.env) :: starEach [e2] X.env := by rfl) (hpl : (backTo pos (starEach [e2] X.env)).any (·.1) = false := by rfl) (hK : X.K = K := by rfl) :
    PI X (.Tuple elts kk tpos) (.Call (.Name "zip" p') [e, e2] [] pos) (iZip K t) := by
  subst hK; exact pi_zip hg hm ha hs hpl
theorem xi_rng1 (hg : Gl X "range") (hm : X.mg "range" = none) (ha : PA X [a] t) (hs : starEach [a] X.env = [(false, eval a X.env)] := by rfl) : PI X tg (.Call (.Name "range" p') [a] [] pos) (iRng1 t) := pi_range1 hg hm ha hs
theorem xe_ixL (K) (ha : PE X a ta) (hb : PE X b tb) (hs : PlainIx b) (hK : X.K = K := by rfl) : PE X (.Subscript a b pos) (tOp (rIxL K) ta tb) := by subst hK; exact pe_ix ix_list ha hb hs
theorem xe_ixT (K) (ha : PE X a ta) (hb : PE X b tb) (hs : PlainIx b) (hK : X.K = K := by rfl) : PE X (.Subscript a b pos) (tOp (rIxT K) ta tb) := by subst hK; exact pe_ix ix_tup ha hb hs
theorem xo_in (K) (hK : X.K = K := by rfl) : OpR X (compareOp .In) (rIn K false) := by subst hK; exact op_in_seq
theorem xo_notIn (K) (hK : X.K = K := by rfl) : OpR X (compareOp .NotIn) (rIn K true) := by subst hK; exact op_notIn_seq
theorem xo_eqD (K) (hu : X.A.units + 64 < cLine) (hK : X.K = K := by rfl) : OpR X (compareOp .Eq) (rEqD K) := by subst hK; exact op_eqD hu
theorem xo_neD (K) (hu : X.A.units + 64 < cLine) (hK : X.K = K := by rfl) : OpR X (compareOp .NotEq) (rNeD K) := by subst hK; exact op_neD hu
theorem xs_list (K) (hK : X.K = K := by rfl) : SlR X (rSlL K) := by subst hK; exact sl_list
theorem xe_rev (K) {k : Nat} {p1 p2 p3 : Pos} (he : PE X e te) (hK : X.K = K := by rfl) : PE X (.Subscript e (.Slice none none (some (.UnaryOp .USub (.Constant (.int 1) k p1) p2)) p3) pos) (tRevL K te) := by subst hK; exact pe_revL he
theorem xc_len (K) (hK : X.K = K := by rfl) : CallR X (.builtin "len") (rLenQ K) := by subst hK; exact call_len_seq
theorem xc_sum (K) (hc : X.calm = true := by rfl) (hK : X.K = K := by rfl) : CallR X (.builtin "sum") (rSum K) := by subst hK; exact cr_sum hc
theorem xc_max (K) (hc : X.calm = true := by rfl) (hK : X.K = K := by rfl) : CallR X (.builtin "max") (rMax K) := by subst hK; exact cr_max hc
theorem xc_min (K) (hc : X.calm = true := by rfl) (hK : X.K = K := by rfl) : CallR X (.builtin "min") (rMin K) := by subst hK; exact cr_min hc
theorem xc_all (K) (hc : X.calm = true := by rfl) (hK : X.K = K := by rfl) : CallR X (.builtin "all") (rAll K) := by subst hK; exact cr_all hc
theorem xc_any (K) (hc : X.calm = true := by rfl) (hK : X.K = K := by rfl) : CallR X (.builtin "any") (rAny K) := by subst hK; exact cr_any hc
theorem xc_sorted (K) (hK : X.K = K := by rfl) : CallR X (.builtin "sorted") (rSorted K) := by subst hK; exact cr_sorted
theorem xc_list (K) (hK : X.K = K := by rfl) : CallR X (.type "list") (rListQ K) := by subst hK; exact call_list_of
theorem xc_isi (K) (hK : X.K = K := by rfl) : CallR X (.builtin "isinstance") (rIsi K) := by subst hK; exact call_isi
theorem xm_index (K) (hK : X.K = K := by rfl) : MtR X "list.index" (rIndex K) := by subst hK; exact mt_index
theorem xe_index (K) {apos cpos : Pos} {o : Expr} {to : TE} (ho : PE X o to) (ha : PA X (e :: es) t) (hbase : attributeBase o "index" X.env (eval o X.env) = eval o X.env := by rfl)
    (hfew : ((backTo cpos (starEach (e :: es) X.env)).all (fun x => !x.1) && (backToKw cpos (keywordEach [] X.env)).all (fun x => x.1.isSome) && decide ((e :: es).length + ([] : List Keyword).length + (if ([] : List Keyword).isEmpty then 0 else 1) < 30)) = true := by rfl)
    (hline : (apos.endLine == cpos.line) = true := by rfl) (hs : starEach (e :: es) X.env = (false, eval e X.env) :: starEach es X.env := by rfl) (hplain : (backTo cpos (starEach es X.env)).any (·.1) = false := by rfl) (hK : X.K = K := by rfl) :
    PE X (.Call (.Attribute o "index" apos) (e :: es) [] cpos) (tBM K "list" (rIndex K) to t) := by
  subst hK
  exact pe_bm PySem.F.plainAttrs_list PySem.F.slot_list_index PySem.F.type_list_index mt_index ho ha hbase hfew hline hs hplain
theorem xe_append (K) {apos cpos : Pos} {o : Expr} {to : TE} (ho : PE X o to) (ha : PA X (e :: es) t) (hbase : attributeBase o "append" X.env (eval o X.env) = eval o X.env := by rfl)
    (hfew : ((backTo cpos (starEach (e :: es) X.env)).all (fun x => !x.1) && (backToKw cpos (keywordEach [] X.env)).all (fun x => x.1.isSome) && decide ((e :: es).length + ([] : List Keyword).length + (if ([] : List Keyword).isEmpty then 0 else 1) < 30)) = true := by rfl)
    (hline : (apos.endLine == cpos.line) = true := by rfl) (hs : starEach (e :: es) X.env = (false, eval e X.env) :: starEach es X.env := by rfl) (hplain : (backTo cpos (starEach es X.env)).any (·.1) = false := by rfl) (hK : X.K = K := by rfl) :
    PE X (.Call (.Attribute o "append" apos) (e :: es) [] cpos) (tBM K "list" rAppend to t) := by
  subst hK
  exact pe_bm PySem.F.plainAttrs_list PySem.F.slot_list_append PySem.F.type_list_append mt_append ho ha hbase hfew hline hs hplain
theorem xe_insert (K) {apos cpos : Pos} {o : Expr} {to : TE} (ho : PE X o to) (ha : PA X (e :: es) t) (hbase : attributeBase o "insert" X.env (eval o X.env) = eval o X.env := by rfl)
    (hfew : ((backTo cpos (starEach (e :: es) X.env)).all (fun x => !x.1) && (backToKw cpos (keywordEach [] X.env)).all (fun x => x.1.isSome) && decide ((e :: es).length + ([] : List Keyword).length + (if ([] : List Keyword).isEmpty then 0 else 1) < 30)) = true := by rfl)
    (hline : (apos.endLine == cpos.line) = true := by rfl) (hs : starEach (e :: es) X.env = (false, eval e X.env) :: starEach es X.env := by rfl) (hplain : (backTo cpos (starEach es X.env)).any (·.1) = false := by rfl) (hK : X.K = K := by rfl) :
    PE X (.Call (.Attribute o "insert" apos) (e :: es) [] cpos) (tBM K "list" rIns to t) := by
  subst hK
  exact pe_bm PySem.F.plainAttrs_list PySem.F.slot_list_insert PySem.F.type_list_insert mt_insert ho ha hbase hfew hline hs hplain
theorem xg_tup (K) {k n : Nat} {gs : TGs} (hc : X.calm = true) (h : PGs X es gs) (hn : (assignEach es X.env).length = n := by rfl) (hst : (assignEach es X.env).findIdx? (·.1) = none := by rfl) (hK : X.K = K := by rfl) : PG X (.Tuple es k pos) (gTup K n gs) := by
  subst hK; exact pg_tup hc h hn hst
end
end PU

set_option Elab.async false
set_option maxRecDepth 100000
set_option linter.all false
/-! PU6: sorted(set(xs)) of ints; the script; some more statements. -/
namespace PU
open PySem L2 PySem.Spec PyProof.Rows

section
variable {P : Program} {w : World} {A : Around} {E : Value → Shared → Prop} {s : Shared}
/-- the new set's empty record -/
def noSet (w : World) : Obj := { cls := .type "set", dict := none, data := .set #[] 0 (.fresh 0 0 (!w.params.followText "set-order")) }
set_option maxHeartbeats 3200000 in
/-- set(l), l a list of ints -/
theorem set_of_ints {l : Addr} {its : Array Value} (ns : List Int) {Q : Value → Shared → Prop} (hh : A.handled = none) (hl : s.heap.IsList l its) (hi : IntsAre its.toList ns) (hb : ns.length + 1 < scanBound)
    (k : ∀ (h' : Heap) (tk c : Nat), SetR w h' s.heap.objs.size (fun j => decide (j ∈ ns)) c → c ≤ ns.length → (∀ b o, s.heap.get? b = some o → h'.get? b = some o) → Q (.ref s.heap.objs.size) { s with heap := h', toks := tk }) :
    wpAny (model P w) A (call (.type "set") [.ref l]) Q E s := by
  have size_eq : its.size = ns.length := by
    have := IntsAre.length hi
    rwa [Array.length_toList] at this
  obtain ⟨c, tl, hmro⟩ := F.called_set.mro
  have f1 := F.called_set.made
  have f2 := F.called_set.sub
  refine wpAny_call (codeAny_of_tree ?_)
  show wpAny _ _ (callAny (.type "set") _) _ _ _
  refine wpAny_pure ⟨Code.quiet_builtin _ (by decide +kernel), codeAny_builtin F.entry_type_call ?_⟩
  rw [Around.under_plain (weight_type_call_type "set" [.ref l] []) rfl]
  have f3 := F.called_set.notType
  have f4 := F.called_set.canCreate
  have f5 := F.typeCall_set_1 (.ref l)
  repeat (any_goals (first | assumption | wp_step))
  refine codeAny_mono (code_set_led1 (.ref l) (E := E) (Q₁ := fun obj s₁ => obj = .ref s.heap.objs.size ∧ s₁ = { s with heap := s.heap.push (noSet w) }) ⟨rfl, rfl⟩) fun r s₁ hr => ?_
  cases r with
  | error e => exact hr
  | ok fl =>
    cases fl with
    | ret obj =>
      obtain ⟨rfl, rfl⟩ := hr
      have at0 : (s.heap.push (noSet w)).get? s.heap.objs.size = some (noSet w) := Heap.get?_push_size _ rfl
      have ty0 : Shared.TypeIs { s with heap := s.heap.push (noSet w) } (.ref s.heap.objs.size) "set" := ⟨_, at0, rfl⟩
      have f6 := F.called_set.init.lookup
      have f7 := F.called_set.init.bind (.ref s.heap.objs.size)
      repeat (any_goals (first | assumption | wp_step))
      refine codeAny_mono (codeAny_call_builtin (R := wants (fun r s₂ => r = .none ∧ ∃ h' tk c, s₂ = { s with heap := h', toks := tk } ∧ SetR w h' s.heap.objs.size (fun j => decide (j ∈ ns)) c ∧ c ≤ ns.length ∧ ∀ b o, s.heap.get? b = some o → h'.get? b = some o) E)
        F.called_set.init.plain F.entry_set_init (check_set_init_1 ty0 ?_)) fun r₂ s₂ hr₂ => ?_
      · obtain ⟨ol, hol, hcl, nl, hdl⟩ := hl
        obtain ⟨ocls, odict, odata, oslots⟩ := ol
        simp only at hcl hdl
        subst hcl; subst hdl
        have hol1 : (s.heap.push (noSet w)).get? l = some { cls := .type "list", dict := odict, data := .seq its nl, slots := oslots } := Heap.get?_push_of_some _ hol
        have g1 := F.sub_list_set
        have g2 := F.sub_list_frozenset
        have g3 : (Value.type "list" == Value.type "dict") = false := by decide
        have hl1 : (s.heap.push (noSet w)).IsList l its := ⟨_, hol1, rfl, nl, rfl⟩
        unfold Builtin.«set.__init__» noKeywords Builtin.Frozenset.updateFrom
        generalize hPI : pyIter = PI
        wp_walk
        subst hPI
        refine wpAny_pyIter_list hl1 (wpAny_bind (wpAny_runValue ?_))
        have lS : l < s.heap.objs.size := Heap.lt_size hol
        have hh3 : A.in1.in1.in1.handled = none := by simp [hh]
        have ne1 : l ≠ (s.heap.push (noSet w)).objs.size := by rw [Heap.size_push]; exact Nat.ne_of_lt (Nat.lt_succ_of_lt lS)
        have ne2 : s.heap.objs.size ∉ [(s.heap.push (noSet w)).objs.size, l] := by
          rw [Heap.size_push]
          intro z
          rcases List.mem_cons.mp z with z | z
          · exact absurd z (Nat.ne_of_lt (Nat.lt_succ_self _))
          · exact absurd (List.mem_singleton.mp z) (Nat.ne_of_gt lS)
        have val : ∀ (i : Nat) (v : Value), its[i]? = some v → ∃ k t, ns[i]? = some k ∧ v = .int k t := fun i v hv => by
          have hi' : i < ns.length := by rw [← size_eq]; exact (Array.getElem?_eq_some_iff.mp hv).1
          obtain ⟨t, e⟩ := IntsAre.int_at hi i v (by rw [Array.getElem?_toList]; exact hv)
          exact ⟨ns[i], t, by simp [hi'], by rw [e]; simp [List.getD_eq_getElem?_getD, hi']⟩
        refine set_update_ints ((Walks.list hh3 _ l ne1 its).toS) s.heap.objs.size ne2 ns size_eq hb val (its.size - 0) 0 _ (by omega) (Nat.zero_le _) ⟨⟨_, Heap.get?_push_size _ rfl, rfl, rfl⟩, hl1.push _⟩ ⟨0, Nat.le_refl 0, setR_new_at (Heap.get?_push_of_some _ at0)⟩ fun s' c' hm hc' hS' => ?_
        obtain ⟨h', g', d', tk', os'⟩ := s'
        have eg : g' = s.gens := hm.gens
        have ed : d' = s.drawn := hm.drawn
        have eo : os' = s.os := hm.os
        subst eg; subst ed; subst eo
        show wpAny _ _ _ _ _ _
        refine wpAny_pure ?_
        show wpAny _ _ (ret Value.none) _ _ _
        rw [size_eq] at hc'
        refine wpAny_pure ⟨rfl, h', tk', c', rfl, hS', hc', fun b o e => hm.heap b o ?_ (Heap.get?_push_of_some _ (Heap.get?_push_of_some _ e))⟩
        have b0 : b < s.heap.objs.size := Heap.lt_size e
        intro z
        rcases List.mem_cons.mp z with z | z
        · exact absurd z (Nat.ne_of_lt b0)
        · have z := List.mem_singleton.mp z
          rw [Heap.size_push] at z
          exact absurd z (Nat.ne_of_lt (Nat.lt_succ_of_lt b0))
      · cases r₂ with
        | error e => exact hr₂
        | ok fl₂ =>
          cases fl₂ with
          | ret r =>
            obtain ⟨rfl, h', tk, c', rfl, hS', hc', hk'⟩ := hr₂
            repeat (any_goals (first | assumption | wp_step))
            exact k _ _ _ hS' hc' hk'
          | _ => exact hr₂.elim
    | _ => exact hr.elim
end
section
variable {X : Cx}
def rSetOf (K : PySem.W.Frag) (w : World) : List V → Hp → VK → Prop := fun xs H Q => ∃ (a : Addr) (ns : List Int), xs = [.ref a] ∧ SqL K H a (ns.map V.int) ∧ ns.length < 60 ∧ ∀ l c, H l = none → c ≤ ns.length → Q (.ref l) (upd H l (SetO w l (fun j => decide (j ∈ ns)) c))
theorem xc_setOf (K) (hc : X.calm = true := by rfl) (hK : X.K = K := by rfl) : CallR X (.type "set") (rSetOf K X.w) := by
  subst hK
  intro pins s σ H xs us Q I r h
  obtain ⟨a, ns, rfl, hS, hl, q⟩ := h
  rw [Vals.ref1 r]
  obtain ⟨its, rv, pl, hz⟩ := I.list hS
  refine set_of_ints ns (I.ok.hd hc) pl.isList (Vals.ints rv) (Nat.lt_of_lt_of_le (show ns.length + 1 < 61 by omega) (by decide)) fun h' tk c R hc' kp => ?_
  exact ⟨.ref _, upd H s.heap.objs.size (SetO X.w s.heap.objs.size (fun j => decide (j ∈ ns)) c), I.laid (t' := tk) kp (Nat.le_refl _) (setO_new R), rfl, q _ _ (I.hok.fresh (Nat.le_refl _)) hc'⟩
/-- sorted(set(xs)) -/
def tSset (K : PySem.W.Frag) (w : World) (te : TE) : TE := tCB (rSortedSet w) (tCons (tCB (rSetOf K w) (tCons te tNil)) tNil)
theorem bs_set : bootBuiltins "set" = some (.type "set") := by decide +kernel
end
open Enc
def dedup : List Int → List Int
  | [] => []
  | x :: xs => if x ∈ dedup xs then dedup xs else x :: dedup xs
theorem mem_dedup {x : Int} : ∀ {xs : List Int}, x ∈ dedup xs ↔ x ∈ xs
  | [] => .rfl
  | y :: ys => by
    unfold dedup
    have ih := mem_dedup (x := x) (xs := ys)
    split
    · rename_i h
      rw [ih, List.mem_cons]
      refine ⟨.inr, fun z => z.elim (fun e => ?_) id⟩
      rw [e]; exact (mem_dedup (x := y) (xs := ys)).mp h
    · rw [List.mem_cons, List.mem_cons, ih]
theorem nodup_dedup : ∀ xs : List Int, (dedup xs).Nodup
  | [] => .nil
  | x :: xs => by
    unfold dedup
    split
    · exact nodup_dedup xs
    · rename_i h
      exact List.nodup_cons.mpr ⟨h, nodup_dedup xs⟩
def sset (xs : List Int) : List Int := isort (dedup xs)
theorem mem_sset {x : Int} {xs : List Int} : x ∈ sset xs ↔ x ∈ xs := ((isort_perm _).mem_iff).trans mem_dedup
theorem sset_lt (xs : List Int) : (sset xs).Pairwise (· < ·) := lt_of_le_nodup _ (isort_sorted _) ((isort_perm _).nodup_iff.mpr (nodup_dedup xs))
theorem rising_eq : ∀ {xs ys : List Int}, xs.Pairwise (· < ·) → ys.Pairwise (· < ·) → (∀ x, x ∈ xs ↔ x ∈ ys) → xs = ys
  | [], [], _, _, _ => rfl
  | [], y :: ys, _, _, h => absurd ((h y).mpr List.mem_cons_self) (by simp)
  | x :: xs, [], _, _, h => absurd ((h x).mp List.mem_cons_self) (by simp)
  | x :: xs, y :: ys, h1, h2, h => by
    obtain ⟨a1, a2⟩ := List.pairwise_cons.mp h1
    obtain ⟨b1, b2⟩ := List.pairwise_cons.mp h2
    have e : x = y := by
      rcases List.mem_cons.mp ((h x).mp List.mem_cons_self) with q | q
      · exact q
      · rcases List.mem_cons.mp ((h y).mpr List.mem_cons_self) with q' | q'
        · exact q'.symm
        · have := b1 x q; have := a1 y q'; omega
    subst e
    rw [rising_eq a2 b2 fun z => ?_]
    refine ⟨fun hz => ?_, fun hz => ?_⟩
    · rcases List.mem_cons.mp ((h z).mp (List.mem_cons_of_mem _ hz)) with q | q
      · have := a1 z hz; omega
      · exact q
    · rcases List.mem_cons.mp ((h z).mpr (List.mem_cons_of_mem _ hz)) with q | q
      · have := b1 z hz; omega
      · exact q
def sset? (xs : List Int) : Option (List Int) := if xs.length < 60 then some (sset xs) else none
section
variable {p : Pm} {env env' : List Sl} {ta tb tc te : TE} {t u tz : TS} {α β γ δ ε ρ : Type} [Enc α] [Enc β] [Enc γ] [Enc δ] [Enc ε] {Po : Post ρ}
theorem ev_sset {w : World} {ma : Option (List Int)} (h : Ev p false te env ma) : Ev p true (tSset p.K w te) env (ma.bind fun xs => sset? xs) := fun z e G0 H0 σ G H s Q k => by
  obtain ⟨xs, e1, e⟩ := bind_some e
  unfold sset? at e
  split at e
  · rename_i hl
    cases e
    refine h xs e1 G0 H0 σ G H s _ fun v G1 H1 g1 r1 => ?_
    obtain ⟨a, vs, rfl, h1, h2⟩ := r1
    cases ints_of h2
    refine ⟨a, xs, rfl, .of (g1.s _ _ h1), hl, fun l c hn hc => ⟨l, _, c, rfl, upd_same, by omega, fun ns q so me ln hq => ?_⟩⟩
    have e : ns = sset xs := rising_eq so (sset_lt xs) fun x => by rw [me x, mem_sset]; simp
    subst e
    have g2 : Gr G1 G1 H1 (upd H1 l (SetO w l (fun j => decide (j ∈ xs)) c)) := .own g1.s hn
    exact k _ G1 _ ((g1.trans g2).trans (.own g2.s hq)) ⟨q, _, (sset xs).map enc, rfl, rfl, (g1.trans g2).h.free hq, g2.s.free hq, upd_same, of_ints⟩
  · cases e

/-! ### the script -/
theorem one_scr {G : Hp} {x : Scr} {v : V} (r : Rp p G (enc x) v) : ∃ a, v = .ref a ∧ SqL p.K G a (x.ns.map V.int) := r
theorem cut_ints (xs : List Int) (lo hi : Option Int) : cutV (xs.map V.int) lo hi = (cut xs lo hi).map V.int := by
  unfold cutV cut
  rw [List.length_map, List.map_take, List.map_drop]
theorem ev_scrCut {ma : Option Scr} {mi : Option Int} (ha : Ev p false ta env ma) (hb : Ev p false tb env mi) : Ev p true (tSl (rSlL p.K) ta tNoPart (tPart tb)) env (ma.bind fun x => mi.bind fun i => some (cut x.ns none (some i))) := fun z e G0 H0 σ G H s Q k => by
  obtain ⟨x, e1, e⟩ := bind_some e
  obtain ⟨i, e2, e⟩ := bind_some e
  cases e
  refine ha x e1 G0 H0 σ G H s _ fun v G1 H1 g1 r1 => ?_
  obtain ⟨a, rfl, h1⟩ := one_scr r1
  refine hb i e2 G0 H0 σ G1 H1 (s.step g1) _ fun w G2 H2 g2 r2 => ?_
  cases (show w = .int i from r2)
  refine ⟨i, rfl, a, _, rfl, (g1.s.trans g2.h).seq h1, fun q hq => ?_⟩
  rw [cut_ints]
  exact k _ G2 _ ((g1.trans g2).trans (.own g2.s hq)) ⟨q, _, (cut x.ns none (some i)).map enc, rfl, rfl, (g1.trans g2).h.free hq, g2.s.free hq, upd_same, of_ints⟩
theorem ev_scrLen {ma : Option Scr} (h : Ev p false te env ma) : Ev p false (tCB (rLenQ p.K) (tCons te tNil)) env (ma.bind fun x => some (x.ns.length : Int)) := fun z e G0 H0 σ G H s Q k => by
  obtain ⟨x, e1, e⟩ := bind_some e
  cases e
  refine h x e1 G0 H0 σ G H s _ fun v G1 H1 g1 r1 => ?_
  obtain ⟨a, rfl, h1⟩ := one_scr r1
  refine ⟨a, _, rfl, .inl (g1.s.seq h1), ?_⟩
  rw [List.length_map]
  exact k _ G1 H1 g1 rfl
theorem dpInts {G : Hp} : ∀ xs : List Int, DpAll p.K G (xs.map V.int) (xs.map PyData.int)
  | [] => .nil
  | x :: xs => .cons (.int x) (dpInts xs)
theorem ev_scrNe {ma : Option Scr} (h : Ev p false te env ma) : Ev p false (tOp (rNeD p.K) te (tLst tNil)) env (ma.bind fun x => some (!decide (x.ns = []))) := fun z e G0 H0 σ G H s Q k => by
  obtain ⟨x, e1, e⟩ := bind_some e
  cases e
  refine h x e1 G0 H0 σ G H s _ fun v G1 H1 g1 r1 => ?_
  obtain ⟨a, rfl, h1⟩ := one_scr r1
  refine ⟨Nat.zero_le _, fun q hq => ?_⟩
  have g2 : Gr G1 G1 H1 (upd H1 q (.lst [])) := .own g1.s hq
  have e0 : ∀ xs : List Int, PyData.eqv (.list (xs.map PyData.int)) (.list (([] : List Int).map PyData.int)) = decide (xs = []) := fun xs => by
    have := eqvAll xs ([] : List Int)
    simp only [PyData.eqv]
    exact this
  refine ⟨.list (x.ns.map PyData.int), .list (([] : List Int).map PyData.int), .lst (g2.h.seq (g1.s.seq h1)) (dpInts _), .lst (.of upd_same) .nil, shaped_of (α := List Int) (by decide) x.ns, shaped_of (α := List Int) (by decide) [], ?_⟩
  rw [e0]
  exact k _ G1 _ (g1.trans g2) rfl

/-! ### more -/
theorem pe_cst {X : Cx} {x : Str} {i : Int} {pos : Pos} (h : ∃ t, X.mg x = some (.int i t)) (hg : Gl X x) (hd : (x == ("__debug__" : Str)) = false := by decide) : PE X (.Name x pos) (tC (.int i)) := by
  obtain ⟨t, h⟩ := h
  exact pe_glob hg h ⟨t, rfl⟩ hd
theorem ev_rep {ma : Option (List α)} {mb : Option Int} (ha : Ev p false ta env ma) (hb : Ev p false tb env mb) : Ev p true (tOp rRep ta tb) env (ma.bind fun xs => mb.bind fun i => rep? xs i) := ev_op ha hb fun xs i => by
  intro z e G H v w s rv rw' Q k
  unfold rep? at e
  split at e
  · rename_i c
    cases e
    obtain ⟨a, vs, rfl, h1, h2⟩ := rv
    cases (show w = .int i from rw')
    have l1 := h2.length
    rw [List.length_map] at l1
    refine ⟨a, i, vs, rfl, rfl, s _ _ h1, by omega, by omega, sz_of (by rw [← l1]; exact c.2), fun q hq => ?_⟩
    have rep : ∀ n : Nat, RpA p G ((List.replicate n xs).flatten.map enc) (List.replicate n vs).flatten := fun n => by
      induction n with
      | zero => exact rfl
      | succ n ih =>
        rw [List.replicate_succ, List.replicate_succ, List.flatten_cons, List.flatten_cons, List.map_append]
        exact h2.append ih
    exact k _ G _ (.own s hq) ⟨q, _, _, rfl, rfl, hq, s.free hq, upd_same, rep _⟩
  · cases e
theorem le_nil : leE [] [] := trivial
theorem le_f {x : Sl} {xs ys : List Sl} (h : leE xs ys) : leE (x :: xs) (.fr :: ys) := ⟨.inl rfl, h⟩
theorem le_r {x : Sl} {xs ys : List Sl} (h : leE xs ys) : leE (x :: xs) (x :: ys) := ⟨.inr rfl, h⟩
theorem k_add {i : Nat} {a : Int} {me : Option Int} {rest : Int → Option ρ} (h0 : env[i]? = some (.va (enc a))) (h : Ev p false te env me) (k : ∀ x, Bk p tz (env.set i (.va (enc x))) (rest x) Po) : Bk p (tSeq (tAug i te (ipI fun i j => i + j)) tz) env (me.bind fun x => (some (a + x)).bind fun y => rest y) Po :=
  k_aug (f := fun i j => i + j) h0 h fun x => k (a + x)
theorem k_par3 {ni nj nl : Bool} {i j l : Nat} {ma : Option α} {mb : Option β} {mc : Option γ} {rest : α → β → γ → Option ρ} (ha : Ev p ni ta env ma) (hb : Ev p nj tb env mb) (hc : Ev p nl tc env mc)
    (k : ∀ x y z, Bk p tz (((env.set i (sl ni (enc x))).set j (sl nj (enc y))).set l (sl nl (enc z))) (rest x y z) Po) :
    Bk p (tSeq (tPar3 i j l (tCons ta (tCons tb (tCons tc tNil)))) tz) env (ma.bind fun x => mb.bind fun y => mc.bind fun z => rest x y z) Po := fun r e G0 H0 σ G H st D q => by
  obtain ⟨x, e1, e⟩ := bind_some e
  obtain ⟨y, e2, e⟩ := bind_some e
  obtain ⟨z, e3, e⟩ := bind_some e
  refine ha x e1 G0 H0 σ G H st _ fun v G1 H1 g1 r1 => hb y e2 G0 H0 σ G1 H1 (st.step g1) _ fun w G2 H2 g2 r2 => hc z e3 G0 H0 σ G2 H2 ((st.step g1).step g2) _ fun u G3 H3 g3 r3 => ⟨v, w, u, rfl, ?_⟩
  exact k x y z r e G0 H0 _ G3 H3 (((st.set_res g1 r1).set_res g2 r2).set_res g3 r3) D (Po.mono ((g1.trans g2).trans g3).g q)
theorem map_erase {α β : Type} (f : α → β) : ∀ (xs : List α) (n : Nat), (xs.eraseIdx n).map f = (xs.map f).eraseIdx n
  | [], _ => rfl
  | _ :: _, 0 => rfl
  | x :: xs, n + 1 => by
    show f x :: (xs.eraseIdx n).map f = f x :: (xs.map f).eraseIdx n
    rw [map_erase f xs n]
/-- return found, a list of one's own -/
theorem k_retO {i : Nat} {xs : List α} (h : env[i]? = some (.ow (xs.map enc))) : Bk p (tRet (tVar i)) env (some xs) (pR p true (List α)) := fun r e G0 H0 σ G H st D q => by
  cases e
  obtain ⟨Fs, f⟩ := st.rs
  obtain ⟨v, a1, ⟨l, vs, rfl, eF, h2⟩, a3, a4⟩ := f.wh i _ h
  have hl : Fs i l = some (.lst vs) := by rw [eF]; exact upd_same
  exact ⟨_, a1, q _ G H st.gr ⟨l, vs, _, rfl, rfl, (a4 _ _ hl).2, (a4 _ _ hl).1, a3 _ _ hl, h2⟩⟩
/-- found.insert(i, found.pop(j)) -/
def move? (xs : List α) (i j : Int) : Option (List α) := (ixN xs.length j).bind fun n => (xs[n]?).bind fun x => if xs.length < 100000 ∧ 0 ≤ i ∧ i < 2 ^ 62 then some (insL (xs.eraseIdx n) i.toNat x) else none
theorem k_move {i : Nat} {xs : List α} {mi mj : Option Int} {rest : List α → Option ρ} (h : env[i]? = some (.ow (xs.map enc))) (ha : Ev p false ta env mi) (hb : Ev p false tb env mj) (k : ∀ ys, Bk p tz (env.set i (.ow (ys.map enc))) (rest ys) Po) :
    Bk p (tSeq (tDrop (tBM p.K "list" rIns (tVar i) (tCons ta (tCons (tBM p.K "list" rPopAt (tVar i) (tCons tb tNil)) tNil)))) tz) env (mi.bind fun a => mj.bind fun b => (move? xs a b).bind rest) Po := fun r e G0 H0 σ G H st D q => by
  obtain ⟨a, e0, e⟩ := bind_some e
  obtain ⟨b, e1, e⟩ := bind_some e
  obtain ⟨ys, e2, e⟩ := bind_some e
  obtain ⟨n, e3, e2⟩ := bind_some e2
  obtain ⟨x, e4, e2⟩ := bind_some e2
  split at e2
  · rename_i hl
    cases e2
    obtain ⟨Fs, f⟩ := st.rs
    obtain ⟨v, a1, ⟨l0, vs0, rfl, eF, h2⟩, a3, a4⟩ := f.wh i _ h
    have hH : H l0 = some (.lst vs0) := a3 _ _ (by rw [eF]; exact upd_same)
    refine ⟨.ref l0, a1, .inl ⟨rfl, _, .of hH⟩, ?_⟩
    refine ha a e0 G0 H0 σ G H st _ fun w G1 H1 g1 r1 => ⟨.ref l0, a1, .inl ⟨rfl, _, .of (g1.h _ _ hH)⟩, ?_⟩
    refine hb b e1 G0 H0 σ G1 H1 (st.step g1) _ fun u G2 H2 g2 r2 => ?_
    cases (show w = .int a from r1)
    cases (show u = .int b from r2)
    refine ((st.step g1).step g2).put h fun l vs b1 b2 b3 _ b4 => ?_
    rw [a1] at b1; cases b1
    have l1 := b3.length
    rw [List.length_map] at l1
    obtain ⟨q1, q2, q3, q4⟩ := ixN_seq e3
    obtain ⟨z, z1, z2⟩ := b3.get (i := n) (d := enc x) (by rw [List.getElem?_map, e4]; rfl)
    refine ⟨l0, vs, b, n, z, rfl, rfl, b2, by omega, by omega, by rw [← l1]; exact q1, z1, ?_⟩
    have hl2 : (vs.eraseIdx n).length < sizeLine := Nat.lt_of_le_of_lt (show (vs.eraseIdx n).length ≤ 100000 by have := List.length_eraseIdx_le vs n; omega) (by decide)
    refine ⟨l0, vs.eraseIdx n, a, z, rfl, rfl, upd_same, hl2, hl.2.1, by omega, ?_⟩
    rw [upd_upd]
    refine k (insL (xs.eraseIdx n) a.toNat x) r e G0 H0 σ G2 _ ?_ D (Po.mono (g1.trans g2).g q)
    unfold insL
    rw [List.map_append, List.map_append, List.map_take, List.map_drop]
    have er : (xs.eraseIdx n).map enc = (xs.map enc).eraseIdx n := map_erase enc xs n
    rw [er]
    exact b4 _ _ ((((b3.erase n).take _).append (.cons z2 .nil)).append ((b3.erase n).drop _))
  · cases e2
def sp4 (p : Pm) (nw : Bool) (f : α → β → δ → ε → Option γ) : Sp := spF p nw (fun x : α × β × δ × ε => [enc x.1, enc x.2.1, enc x.2.2.1, enc x.2.2.2]) fun x => f x.1 x.2.1 x.2.2.1 x.2.2.2
theorem ev_call4 {nw : Bool} {f : α → β → δ → ε → Option γ} {E : XK} {td : TE} {ma : Option α} {mb : Option β} {mc : Option δ} {md : Option ε} (ha : Ev p false ta env ma) (hb : Ev p false tb env mb) (hc : Ev p false tc env mc) (hd : Ev p false td env md) :
    Ev p nw (tCall (sp4 p nw f) [] E (tCons ta (tCons tb (tCons tc (tCons td tNil))))) env (ma.bind fun x => mb.bind fun y => mc.bind fun z => md.bind fun w => f x y z w) := fun r e G0 H0 σ G H s Q k => by
  obtain ⟨x, e1, e⟩ := bind_some e
  obtain ⟨y, e2, e⟩ := bind_some e
  obtain ⟨z, e3, e⟩ := bind_some e
  obtain ⟨w, e4, e⟩ := bind_some e
  refine ha x e1 G0 H0 σ G H s _ fun v1 G1 H1 g1 r1 => hb y e2 G0 H0 σ G1 H1 (s.step g1) _ fun v2 G2 H2 g2 r2 => hc z e3 G0 H0 σ G2 H2 ((s.step g1).step g2) _ fun v3 G3 H3 g3 r3 => hd w e4 G0 H0 σ G3 H3 (((s.step g1).step g2).step g3) _ fun v4 G4 H4 g4 r4 => ?_
  have g := ((g1.trans g2).trans g3).trans g4
  exact ⟨G4, (x, y, z, w), r, g4.s, .cons (Rp.mono ((g2.g.trans g3.g).trans g4.g) _ r1) (.cons (Rp.mono (g3.g.trans g4.g) _ r2) (.cons (Rp.mono g4.g _ r3) (.cons r4 .nil))), e, fun u G5 H5 g5 r5 => k u G5 H5 (g.trans g5) (res_back g.h r5)⟩
/-- a def of the text stands where its name says -/
structure Df (K : PySem.W.Frag) (mg : Str → Option Value) (x : Str) (st : Stmt) : Prop where
  ex : ∃ f fd, Fun K x x st f fd ∧ mg x = some (.ref f)
end
section
variable {X : Cx} {K : PySem.W.Frag} {e a : Expr} {te ta : TE} {t : TA} {es : List Expr} {p1 p2 q1 q2 pos : Pos}
theorem xe_sset {p : Pm} (hg : Gl X "sorted") (hm : X.mg "sorted" = none) (hg2 : Gl X "set") (hm2 : X.mg "set" = none) (ha : PE X a ta) (hc : X.calm = true := by rfl) (hs : starEach [a] X.env = [(false, eval a X.env)] := by rfl)
    (hs2 : starEach [Expr.Call (.Name "set" p1) [a] [] p2] X.env = [(false, eval (Expr.Call (.Name "set" p1) [a] [] p2) X.env)] := by rfl) (hK : X.K = p.K := by rfl) :
    PE X (.Call (.Name "sorted" q1) [.Call (.Name "set" p1) [a] [] p2] [] q2) (tSset p.K X.w ta) :=
  pe_callB (cr_sortedSet hc) hg hm bs_sorted (pa_cons (pe_callTy (xc_setOf p.K hc hK) hg2 hm2 bs_set (pa_cons ha pa_nil hs) (by decide) (by decide) hs rfl) pa_nil hs2) (by decide) (by decide) hs2 rfl
theorem xe_pop (K) {apos cpos : Pos} {o : Expr} {to : TE} (ho : PE X o to) (ha : PA X (e :: es) t) (hbase : attributeBase o "pop" X.env (eval o X.env) = eval o X.env := by rfl)
    (hfew : ((backTo cpos (starEach (e :: es) X.env)).all (fun x => !x.1) && (backToKw cpos (keywordEach [] X.env)).all (fun x => x.1.isSome) && decide ((e :: es).length + ([] : List Keyword).length + (if ([] : List Keyword).isEmpty then 0 else 1) < 30)) = true := by rfl)
    (hline : (apos.endLine == cpos.line) = true := by rfl) (hs : starEach (e :: es) X.env = (false, eval e X.env) :: starEach es X.env := by rfl) (hplain : (backTo cpos (starEach es X.env)).any (·.1) = false := by rfl) (hK : X.K = K := by rfl) :
    PE X (.Call (.Attribute o "pop" apos) (e :: es) [] cpos) (tBM K "list" rPopAt to t) := by
  subst hK
  exact pe_bm PySem.F.plainAttrs_list PySem.F.slot_list_pop PySem.F.type_list_pop mt_popAt ho ha hbase hfew hline hs hplain
end
end PU

set_option Elab.async false
set_option maxRecDepth 100000
set_option linter.all false
/-! PU7: things that are new through and through; objects. -/
namespace PU
open PySem L2
open Enc

def Dj (F1 F2 : Hp) : Prop := ∀ a o, F1 a = some o → F2 a = none
def un (F1 F2 : Hp) : Hp := fun a => match F1 a with
  | some o => some o
  | none => F2 a
theorem Dj.symm {F1 F2 : Hp} (h : Dj F1 F2) : Dj F2 F1 := fun a o e => by
  cases q : F1 a with
  | none => rfl
  | some u => rw [h a u q] at e; cases e
theorem un_some {F1 F2 : Hp} {a : Addr} {o : HO} (h : un F1 F2 a = some o) : F1 a = some o ∨ F2 a = some o := by
  unfold un at h
  cases q : F1 a with
  | none => rw [q] at h; exact .inr h
  | some u => rw [q] at h; cases h; exact .inl rfl
theorem un_none {F1 F2 : Hp} {a : Addr} : un F1 F2 a = none ↔ F1 a = none ∧ F2 a = none := by
  unfold un
  cases q : F1 a with
  | none => simp
  | some u => simp
theorem same_un1 {F1 F2 : Hp} : Same F1 (un F1 F2) := fun a o h => by
  unfold un; rw [h]
theorem same_un2 {F1 F2 : Hp} (d : Dj F1 F2) : Same F2 (un F1 F2) := fun a o h => by
  unfold un; rw [d.symm a o h]; exact h
theorem un_same {F1 F2 H : Hp} (h1 : Same F1 H) (h2 : Same F2 H) : Same (un F1 F2) H := fun a o e => (un_some e).elim (h1 a o) (h2 a o)

mutual
/-- unchangeable: it may be shared -/
def imm : D → Bool
  | .non => true
  | .bl _ => true
  | .int _ => true
  | .str _ => true
  | .tup ds => immA ds
  | .lst _ => false
  | .scr _ => false
  | .dE => false
  | .adr _ => false
  | .ins _ _ => false
def immA : List D → Bool
  | [] => true
  | d :: ds => imm d && immA ds
end
mutual
/-- v stands for d, and F is all of it that may change; what is unchangeable stands in G -/
def Dn (p : Pm) (G : Hp) : D → V → Hp → Prop
  | .non, v, F => v = .non ∧ F = nil
  | .bl b, v, F => v = .bl b ∧ F = nil
  | .int i, v, F => v = .int i ∧ F = nil
  | .str x, v, F => v = .str x ∧ F = nil
  | .lst ds, v, F => ∃ a xs F', v = .ref a ∧ DnA p G ds xs F' ∧ F' a = none ∧ F = upd F' a (.lst xs)
  | .tup ds, v, F => (immA ds = true ∧ Rp p G (.tup ds) v ∧ F = nil) ∨ (immA ds = false ∧ ∃ a xs F', v = .ref a ∧ DnA p G ds xs F' ∧ F' a = none ∧ F = upd F' a (.tup xs))
  | .scr _, _, _ => False
  | .dE, _, _ => False
  | .adr _, _, _ => False
  | .ins c fs, v, F => ∃ a dx xs F', v = .ref a ∧ DnF p G fs xs F' ∧ F' a = none ∧ F = upd F' a (.ins (p.cl c) dx xs)
def DnA (p : Pm) (G : Hp) : List D → List V → Hp → Prop
  | [], xs, F => xs = [] ∧ F = nil
  | d :: ds, xs, F => ∃ v vs F1 F2, xs = v :: vs ∧ Dn p G d v F1 ∧ DnA p G ds vs F2 ∧ Dj F1 F2 ∧ F = un F1 F2
def DnF (p : Pm) (G : Hp) : List (Str × D) → List (Str × V) → Hp → Prop
  | [], xs, F => xs = [] ∧ F = nil
  | (f, d) :: ds, xs, F => ∃ v vs F1 F2, xs = (f, v) :: vs ∧ Dn p G d v F1 ∧ DnF p G ds vs F2 ∧ Dj F1 F2 ∧ F = un F1 F2
end
mutual
theorem Dn.mono {p : Pm} {G G' : Hp} (e : Same G G') : ∀ (d : D) {v : V} {F : Hp}, Dn p G d v F → Dn p G' d v F
  | .non, _, _, h => h
  | .bl _, _, _, h => h
  | .int _, _, _, h => h
  | .str _, _, _, h => h
  | .lst ds, _, _, h => by
    obtain ⟨a, xs, F', h1, h2, h3⟩ := h
    exact ⟨a, xs, F', h1, DnA.mono e ds h2, h3⟩
  | .tup ds, _, _, h => by
    rcases h with ⟨h0, h1, h2⟩ | ⟨h0, a, xs, F', h1, h2, h3⟩
    · exact .inl ⟨h0, Rp.mono e _ h1, h2⟩
    · exact .inr ⟨h0, a, xs, F', h1, DnA.mono e ds h2, h3⟩
  | .scr _, _, _, h => nomatch h
  | .dE, _, _, h => nomatch h
  | .adr _, _, _, h => nomatch h
  | .ins c fs, _, _, h => by
    obtain ⟨a, dx, xs, F', h1, h2, h3⟩ := h
    exact ⟨a, dx, xs, F', h1, DnF.mono e fs h2, h3⟩
theorem DnA.mono {p : Pm} {G G' : Hp} (e : Same G G') : ∀ (ds : List D) {vs : List V} {F : Hp}, DnA p G ds vs F → DnA p G' ds vs F
  | [], _, _, h => h
  | d :: ds, _, _, h => by
    obtain ⟨v, vs, F1, F2, h1, h2, h3, h4⟩ := h
    exact ⟨v, vs, F1, F2, h1, Dn.mono e d h2, DnA.mono e ds h3, h4⟩
theorem DnF.mono {p : Pm} {G G' : Hp} (e : Same G G') : ∀ (ds : List (Str × D)) {vs : List (Str × V)} {F : Hp}, DnF p G ds vs F → DnF p G' ds vs F
  | [], _, _, h => h
  | (f, d) :: ds, _, _, h => by
    obtain ⟨v, vs, F1, F2, h1, h2, h3, h4⟩ := h
    exact ⟨v, vs, F1, F2, h1, Dn.mono e d h2, DnF.mono e ds h3, h4⟩
end
theorem dj_un' {A B G : Hp} (d : Dj A B) (h : Dj (un A B) G) : Dj A G ∧ Dj B G := ⟨fun a o e => h a o (same_un1 a o e), fun a o e => h a o (same_un2 d a o e)⟩
theorem dj_upd' {A G : Hp} {a : Addr} {o : HO} (n : A a = none) (h : Dj (upd A a o) G) : Dj A G ∧ G a = none := ⟨fun b u e => h b u (by
  by_cases c : b = a
  · subst c; rw [n] at e; cases e
  · rw [upd_ne c]; exact e), h a o upd_same⟩
theorem un_mono1 {A B G : Hp} (s : Same A B) (d : Dj B G) : Same (un A G) (un B G) := fun a o e => by
  rcases un_some e with e | e
  · exact same_un1 _ _ (s a o e)
  · exact same_un2 d _ _ e
mutual
theorem Dn.rp {p : Pm} {G : Hp} : ∀ (d : D) {v : V} {F : Hp}, Dj F G → Dn p G d v F → Rp p (un F G) d v
  | .non, _, _, _, h => h.1
  | .bl _, _, _, _, h => h.1
  | .int _, _, _, _, h => h.1
  | .str _, _, _, _, h => h.1
  | .lst ds, _, _, dj, h => by
    obtain ⟨a, xs, F', h1, h2, h3, rfl⟩ := h
    obtain ⟨d1, d2⟩ := dj_upd' h3 dj
    exact ⟨a, xs, h1, same_un1 _ _ upd_same, RpA.mono (un_mono1 (same_new h3) dj) _ (DnA.rp ds d1 h2)⟩
  | .tup ds, _, _, dj, h => by
    rcases h with ⟨h0, h1, h2⟩ | ⟨h0, a, xs, F', h1, h2, h3, rfl⟩
    · exact Rp.mono (same_un2 dj) _ h1
    · obtain ⟨d1, d2⟩ := dj_upd' h3 dj
      exact ⟨a, xs, h1, same_un1 _ _ upd_same, RpA.mono (un_mono1 (same_new h3) dj) _ (DnA.rp ds d1 h2)⟩
  | .scr _, _, _, _, h => nomatch h
  | .dE, _, _, _, h => nomatch h
  | .adr _, _, _, _, h => nomatch h
  | .ins c fs, _, _, dj, h => by
    obtain ⟨a, dx, xs, F', h1, h2, h3, rfl⟩ := h
    obtain ⟨d1, d2⟩ := dj_upd' h3 dj
    exact ⟨a, dx, xs, h1, same_un1 _ _ upd_same, RpF.mono (un_mono1 (same_new h3) dj) _ (DnF.rp fs d1 h2)⟩
theorem DnA.rp {p : Pm} {G : Hp} : ∀ (ds : List D) {vs : List V} {F : Hp}, Dj F G → DnA p G ds vs F → RpA p (un F G) ds vs
  | [], _, _, _, h => h.1
  | d :: ds, _, _, dj, h => by
    obtain ⟨v, vs, F1, F2, h1, h2, h3, h4, rfl⟩ := h
    obtain ⟨d1, d2⟩ := dj_un' h4 dj
    exact ⟨v, vs, h1, Rp.mono (un_mono1 same_un1 dj) d (Dn.rp d d1 h2), RpA.mono (un_mono1 (same_un2 h4) dj) ds (DnA.rp ds d2 h3)⟩
theorem DnF.rp {p : Pm} {G : Hp} : ∀ (ds : List (Str × D)) {vs : List (Str × V)} {F : Hp}, Dj F G → DnF p G ds vs F → RpF p (un F G) ds vs
  | [], _, _, _, h => h.1
  | (f, d) :: ds, _, _, dj, h => by
    obtain ⟨v, vs, F1, F2, h1, h2, h3, h4, rfl⟩ := h
    obtain ⟨d1, d2⟩ := dj_un' h4 dj
    exact ⟨v, vs, h1, Rp.mono (un_mono1 same_un1 dj) d (Dn.rp d d1 h2), RpF.mono (un_mono1 (same_un2 h4) dj) ds (DnF.rp ds d2 h3)⟩
end
/-- what is unchangeable owns nothing -/
theorem Dn.of_imm {p : Pm} {G : Hp} : ∀ (d : D) {v : V}, imm d = true → Rp p G d v → Dn p G d v nil
  | .non, _, _, h => ⟨h, rfl⟩
  | .bl _, _, _, h => ⟨h, rfl⟩
  | .int _, _, _, h => ⟨h, rfl⟩
  | .str _, _, _, h => ⟨h, rfl⟩
  | .lst ds, _, i, h => nomatch i
  | .tup ds, _, i, h => .inl ⟨i, h, rfl⟩
  | .scr _, _, i, h => nomatch i
  | .dE, _, i, h => nomatch i
  | .adr _, _, i, h => nomatch i
  | .ins c fs, _, i, h => nomatch i
theorem Dn.imm_rp {p : Pm} {G : Hp} : ∀ (d : D) {v : V} {F : Hp}, imm d = true → Dn p G d v F → Rp p G d v ∧ F = nil
  | .non, _, _, _, h => h
  | .bl _, _, _, _, h => h
  | .int _, _, _, _, h => h
  | .str _, _, _, _, h => h
  | .lst ds, _, _, i, h => nomatch i
  | .tup ds, _, _, i, h => by
    rcases h with ⟨h0, h1, h2⟩ | ⟨h0, _⟩
    · exact ⟨h1, h2⟩
    · rw [show immA ds = true from i] at h0; cases h0
  | .scr _, _, _, i, h => nomatch i
  | .dE, _, _, i, h => nomatch i
  | .adr _, _, _, i, h => nomatch i
  | .ins c fs, _, _, i, h => nomatch i
theorem DnA.imm_rp {p : Pm} {G : Hp} : ∀ (ds : List D) {vs : List V} {F : Hp}, immA ds = true → DnA p G ds vs F → RpA p G ds vs ∧ F = nil
  | [], _, _, _, h => h
  | d :: ds, _, _, i, h => by
    obtain ⟨v, vs, F1, F2, rfl, h2, h3, h4, rfl⟩ := h
    have ii : imm d = true ∧ immA ds = true := by simpa [immA] using i
    obtain ⟨q1, rfl⟩ := Dn.imm_rp d ii.1 h2
    obtain ⟨q2, rfl⟩ := DnA.imm_rp ds ii.2 h3
    exact ⟨⟨v, vs, rfl, q1, q2⟩, rfl⟩
theorem nil_un (F : Hp) : un nil F = F := by
  funext a; rfl
theorem un_nil (F : Hp) : un F nil = F := by
  funext a; unfold un; cases F a <;> rfl
theorem un_assoc (A B C : Hp) : un (un A B) C = un A (un B C) := by
  funext a; unfold un; cases A a <;> rfl
theorem dj_nil {F : Hp} : Dj nil F := fun _ _ h => nomatch h
theorem dj_nil' {F : Hp} : Dj F nil := fun _ _ _ => rfl
theorem DnA.append {p : Pm} {G : Hp} : ∀ {ds es : List D} {vs ws : List V} {F1 F2 : Hp}, DnA p G ds vs F1 → DnA p G es ws F2 → Dj F1 F2 → DnA p G (ds ++ es) (vs ++ ws) (un F1 F2)
  | [], es, vs, ws, F1, F2, h, k, _ => by
    obtain ⟨rfl, rfl⟩ := h
    rw [nil_un]; exact k
  | d :: ds, es, _, ws, _, F2, h, k, dj => by
    obtain ⟨v, vs, A, B, rfl, h1, h2, h3, rfl⟩ := h
    refine ⟨v, vs ++ ws, A, un B F2, rfl, h1, DnA.append h2 k fun a o e => dj a o (same_un2 h3 a o e), fun a o e => un_none.mpr ⟨h3 a o e, dj a o (same_un1 a o e)⟩, un_assoc ..⟩
theorem DnF.append {p : Pm} {G : Hp} : ∀ {ds es : List (Str × D)} {vs ws : List (Str × V)} {F1 F2 : Hp}, DnF p G ds vs F1 → DnF p G es ws F2 → Dj F1 F2 → DnF p G (ds ++ es) (vs ++ ws) (un F1 F2)
  | [], es, vs, ws, F1, F2, h, k, _ => by
    obtain ⟨rfl, rfl⟩ := h
    rw [nil_un]; exact k
  | (f, d) :: ds, es, _, ws, _, F2, h, k, dj => by
    obtain ⟨v, vs, A, B, rfl, h1, h2, h3, rfl⟩ := h
    refine ⟨v, vs ++ ws, A, un B F2, rfl, h1, DnF.append h2 k fun a o e => dj a o (same_un2 h3 a o e), fun a o e => un_none.mpr ⟨h3 a o e, dj a o (same_un1 a o e)⟩, un_assoc ..⟩
theorem DnA.ints {p : Pm} {G : Hp} : ∀ ns : List Int, DnA p G (ns.map enc) (ns.map V.int) nil
  | [] => ⟨rfl, rfl⟩
  | n :: ns => ⟨_, _, nil, nil, rfl, ⟨rfl, rfl⟩, DnA.ints ns, dj_nil, (nil_un nil).symm⟩
theorem DnA.one {p : Pm} {G : Hp} {d : D} {v : V} {F : Hp} (h : Dn p G d v F) : DnA p G [d] [v] F := ⟨v, [], F, nil, rfl, h, ⟨rfl, rfl⟩, dj_nil', (un_nil F).symm⟩
theorem DnF.one {p : Pm} {G : Hp} {f : Str} {d : D} {v : V} {F : Hp} (h : Dn p G d v F) : DnF p G [(f, d)] [(f, v)] F := ⟨v, [], F, nil, rfl, h, ⟨rfl, rfl⟩, dj_nil', (un_nil F).symm⟩
theorem DnA.length {p : Pm} {G : Hp} : ∀ {ds : List D} {vs : List V} {F : Hp}, DnA p G ds vs F → ds.length = vs.length
  | [], _, _, h => by rw [h.1]; rfl
  | d :: ds, _, _, h => by
    obtain ⟨v, vs, F1, F2, rfl, _, h3, _⟩ := h
    simp [DnA.length h3]

/-- a thing of one's own, through and through -/
def dn (d : D) : Rs := ⟨fun p G v F => Dn p G d v F, fun e h => Dn.mono e d h⟩
/-- the same, its place told -/
def dnAt (x : Addr) (d : D) : Rs := ⟨fun p G v F => v = .ref x ∧ Dn p G d v F, fun e h => ⟨h.1, Dn.mono e d h.2⟩⟩

/-- te gives m, new through and through -/
def EvN (p : Pm) (te : TE) (env : List Sl) {α : Type} [Enc α] (m : Option α) : Prop :=
  ∀ x, m = some x → ∀ G0 H0 σ G H, Sts p G0 H0 env σ G H → ∀ Q : VK, (∀ v G' H' N, Gr G G' H H' → Same N H' → (∀ a o, N a = some o → H a = none ∧ G' a = none) → Dn p G' (enc x) v N → Q v H') → te σ H Q
/-- numbers, truths, None -/
class Scal (α : Type) [Enc α] : Prop where
  im : ∀ x : α, imm (enc x) = true
  rp : ∀ {p : Pm} {G G' : Hp} {x : α} {v : V}, Rp p G (enc x) v → Rp p G' (enc x) v
theorem Scal.dn {α : Type} [Enc α] [Scal α] {p : Pm} {G : Hp} {x : α} {v : V} (h : Rp p G (enc x) v) : Dn p G (enc x) v nil := Dn.of_imm _ (Scal.im x) h
instance : Scal Int := ⟨fun _ => rfl, fun h => h⟩
instance : Scal Bool := ⟨fun _ => rfl, fun h => h⟩
instance : Scal Unit := ⟨fun _ => rfl, fun h => h⟩
instance {α : Type} [Enc α] [Scal α] : Scal (Option α) := ⟨fun x => match x with
  | none => rfl
  | some y => Scal.im y, fun {p G G' x v} h => match x, h with
  | none, h => h
  | some y, h => Scal.rp (α := α) (x := y) h⟩
/-- what is unchangeable through and through -/
class Imm (α : Type) [Enc α] : Prop where
  im : ∀ x : α, imm (enc x) = true
instance {α : Type} [Enc α] [Scal α] : Imm α := ⟨Scal.im⟩
instance {α β : Type} [Enc α] [Enc β] [Imm α] [Imm β] : Imm (α × β) := ⟨fun x => by
  show (imm (enc x.1) && (imm (enc x.2) && true)) = true
  rw [Imm.im x.1, Imm.im x.2]; rfl⟩
theorem Gr.none_of {G G' H H' : Hp} (g : Gr G G' H H') {a : Addr} {o : HO} (h : G a = none) (h' : H a = some o) : G' a = none := by
  cases w : G' a with
  | none => rfl
  | some u =>
    have := g.n a u w h
    rw [h'] at this; cases this
/-- G and a new N together -/
theorem Gr.unN {G G' H H' N : Hp} (g : Gr G G' H H') (s : Same N H') (n : ∀ a o, N a = some o → H a = none ∧ G' a = none) : Gr G (un G' N) H H' :=
  ⟨g.g.trans same_un1, un_same g.s s, g.h, fun a o h k => by
    rcases un_some h with h | h
    · exact g.n a o h k
    · exact (n a o h).1⟩
theorem un_comm0 {A B : Hp} (d : Dj A B) : un A B = un B A := by
  funext a
  unfold un
  cases h : A a with
  | none => cases B a <;> rfl
  | some o => rw [d a o h]
section
variable {p : Pm} {env env' : List Sl} {ta tb tc te : TE} {t u tz : TS} {α β γ δ ρ : Type} [Enc α] [Enc β] [Enc γ] [Enc δ] {Po : Post ρ}
/-- unchangeable: new or not -/
theorem en_imm [Imm α] {m : Option α} (h : Ev p false te env m) : EvN p te env m := fun x e G0 H0 σ G H s Q k =>
  h x e G0 H0 σ G H s Q fun v G' H' g r => k v G' H' nil g (fun _ _ z => nomatch z) (fun _ _ z => nomatch z) (Dn.of_imm _ (Imm.im x) r)
theorem DnA.of_imm {p : Pm} {G : Hp} : ∀ {ds : List D} {vs : List V}, immA ds = true → RpA p G ds vs → DnA p G ds vs nil
  | [], _, _, h => ⟨h, rfl⟩
  | d :: ds, _, i, h => by
    obtain ⟨v, vs, rfl, h2, h3⟩ := h
    have ii : imm d = true ∧ immA ds = true := by simpa [immA] using i
    exact ⟨v, vs, nil, nil, rfl, Dn.of_imm d ii.1 h2, DnA.of_imm ii.2 h3, dj_nil, (nil_un nil).symm⟩
theorem immA_map [Imm α] : ∀ xs : List α, immA (xs.map enc) = true
  | [] => rfl
  | x :: xs => by
    show (imm (enc x) && immA (xs.map enc)) = true
    rw [Imm.im x, immA_map xs]; rfl
/-- a new list of what is unchangeable -/
theorem en_own [Imm α] {m : Option (List α)} (h : Ev p true te env m) : EvN p te env m := fun x e G0 H0 σ G H s Q k =>
  h x e G0 H0 σ G H s Q fun v G' H' g r => by
    obtain ⟨l, vs, ds, rfl, e2, h1, h2, h3, h4⟩ := r
    have e3 : ds = x.map enc := by
      injection e2 with e2
      exact e2.symm
    subst e3
    refine k _ G' H' (sing l (.lst vs)) g (fun a o q => ?_) (fun a o q => ?_) ⟨l, _, nil, rfl, DnA.of_imm (immA_map x) h4, rfl, rfl⟩
    · obtain ⟨rfl, rfl⟩ := sing_iff.mp q; exact h3
    · obtain ⟨rfl, rfl⟩ := sing_iff.mp q; exact ⟨h1, h2⟩
theorem EvN.ev {m : Option α} (h : EvN p te env m) : Ev p false te env m := fun x e G0 H0 σ G H s Q k =>
  h x e G0 H0 σ G H s Q fun v G' H' N g sN nN r => k v _ H' (g.unN sN nN) (by
    have dj : Dj N G' := fun a o q => (nN a o q).2
    rw [un_comm0 dj.symm]
    exact Dn.rp _ dj r)
theorem en_sc [Scal α] {m : Option α} (h : Ev p false te env m) : EvN p te env m := fun x e G0 H0 σ G H s Q k =>
  h x e G0 H0 σ G H s Q fun v G' H' g r => k v G' H' nil g (fun _ _ z => nomatch z) (fun _ _ z => nomatch z) (Scal.dn r)
theorem en_ints {m : Option (List Int)} (h : Ev p true te env m) : EvN p te env m := fun x e G0 H0 σ G H s Q k =>
  h x e G0 H0 σ G H s Q fun v G' H' g r => by
    obtain ⟨l, vs, ds, rfl, e2, h1, h2, h3, h4⟩ := r
    have e3 : ds = x.map D.int := by
      injection e2 with e2
      exact e2.symm
    subst e3
    cases RpA.ints h4
    refine k _ G' H' (sing l (.lst (x.map V.int))) g (fun a o q => ?_) (fun a o q => ?_) ⟨l, _, nil, rfl, DnA.ints x, rfl, rfl⟩
    · obtain ⟨rfl, rfl⟩ := sing_iff.mp q; exact h3
    · obtain ⟨rfl, rfl⟩ := sing_iff.mp q; exact ⟨h1, h2⟩
/-- a new list of pairs of numbers is new through and through only if its pairs are: the empty one is -/
theorem en_nil {m : Option (List α)} (h : Ev p true te env m) (hm : ∀ x, m = some x → x = []) : EvN p te env m := fun x e G0 H0 σ G H s Q k =>
  h x e G0 H0 σ G H s Q fun v G' H' g r => by
    obtain ⟨l, vs, ds, rfl, e2, h1, h2, h3, h4⟩ := r
    have e3 : ds = x.map enc := by
      injection e2 with e2
      exact e2.symm
    have ex := hm x e
    subst e3 ex
    cases (show vs = [] from h4)
    refine k _ G' H' (sing l (.lst [])) g (fun a o q => ?_) (fun a o q => ?_) ⟨l, _, nil, rfl, ⟨rfl, rfl⟩, rfl, rfl⟩
    · obtain ⟨rfl, rfl⟩ := sing_iff.mp q; exact h3
    · obtain ⟨rfl, rfl⟩ := sing_iff.mp q; exact ⟨h1, h2⟩
theorem en_if {tt : TT} {m1 : Option Bool} {ma mb : Option α} (h : EvT p tt env m1) (h1 : EvN p ta env ma) (h2 : EvN p tb env mb) : EvN p (tIf tt ta tb) env (m1.bind fun c => if c = true then ma else mb) := fun x e G0 H0 σ G H s Q k => by
  obtain ⟨c, e1, e⟩ := bind_some e
  refine h c e1 G0 H0 σ G H s _ fun G1 H1 g1 => ?_
  cases c with
  | true => exact h1 x e G0 H0 σ G1 H1 (s.step g1) _ fun v G2 H2 N g2 sN nN r => k v G2 H2 N (g1.trans g2) sN (fun a o q => ⟨g1.h.free (nN a o q).1, (nN a o q).2⟩) r
  | false => exact h2 x e G0 H0 σ G1 H1 (s.step g1) _ fun v G2 H2 N g2 sN nN r => k v G2 H2 N (g1.trans g2) sN (fun a o q => ⟨g1.h.free (nN a o q).1, (nN a o q).2⟩) r
/-- things one behind another, each new -/
def EnA (p : Pm) (n : Nat) (ta : TA) (env : List Sl) (m : Option (List D)) : Prop :=
  ∀ x, m = some x → ∀ G0 H0 σ G H, Sts p G0 H0 env σ G H → ∀ Q : List V → Hp → Prop, (∀ vs G' H' N, Gr G G' H H' → Same N H' → (∀ a o, N a = some o → H a = none ∧ G' a = none) → DnA p G' x vs N → x.length = n → Q vs H') → ta σ H Q
theorem ena_nil : EnA p 0 tNil env (some []) := fun x e G0 H0 σ G H s Q k => by
  cases e
  exact k [] G H nil (.refl s.gr.s) (fun _ _ z => nomatch z) (fun _ _ z => nomatch z) ⟨rfl, rfl⟩ rfl
theorem ena_cons {n : Nat} {tr : TA} {ma : Option α} {ms : Option (List D)} (h : EvN p ta env ma) (hr : EnA p n tr env ms) : EnA p (n + 1) (tCons ta tr) env (ma.bind fun x => ms.bind fun ds => some (enc x :: ds)) := fun z e G0 H0 σ G H s Q k => by
  obtain ⟨x, e1, e⟩ := bind_some e
  obtain ⟨ds, e2, e⟩ := bind_some e
  cases e
  refine h x e1 G0 H0 σ G H s _ fun v G1 H1 N1 g1 s1 n1 r1 => ?_
  refine hr ds e2 G0 H0 σ G1 H1 (s.step g1) _ fun vs G2 H2 N2 g2 s2 n2 r2 hl => ?_
  have dj : Dj N1 N2 := fun a o q => by
    cases w : N2 a with
    | none => rfl
    | some u =>
      have := (n2 a u w).1
      rw [s1 a o q] at this; cases this
  refine k _ G2 H2 (un N1 N2) (g1.trans g2) (un_same (s1.trans g2.h) s2) (fun a o q => ?_) ⟨v, vs, N1, N2, rfl, Dn.mono g2.g _ r1, r2, dj, rfl⟩ (by simp [hl])
  rcases un_some q with q | q
  · exact ⟨(n1 a o q).1, g2.none_of (n1 a o q).2 (s1 a o q)⟩
  · exact ⟨g1.h.free (n2 a o q).1, (n2 a o q).2⟩
/-- the object that is laid around them -/
theorem lay_new {G G' H H' N : Hp} {q : Addr} {o : HO} (g : Gr G G' H H') (s : Same N H') (n : ∀ a o, N a = some o → H a = none ∧ G' a = none) (hq : H' q = none) :
    Gr G G' H (upd H' q o) ∧ Same (upd N q o) (upd H' q o) ∧ (∀ a u, upd N q o a = some u → H a = none ∧ G' a = none) ∧ N q = none := by
  have nq : N q = none := s.free hq
  refine ⟨g.trans (.own g.s hq), upd_mono s, fun a u e => ?_, nq⟩
  by_cases c : a = q
  · subst c; exact ⟨g.h.free hq, g.s.free hq⟩
  · rw [upd_ne c] at e; exact n a u e
theorem en_lst {n : Nat} {ta : TA} {m : Option (List D)} {f : List D → Option (List α)} (h : EnA p n ta env m) (hf : ∀ ds xs, m = some ds → f ds = some xs → ds = xs.map enc) (hn : n ≤ 100000 := by decide) : EvN p (tLst ta) env (m.bind f) := fun z e G0 H0 σ G H s Q k => by
  obtain ⟨ds, e1, e⟩ := bind_some e
  refine h ds e1 G0 H0 σ G H s _ fun vs G1 H1 N g1 s1 n1 r1 hl => ⟨by rw [← r1.length, hl]; exact sz_of hn, fun q hq => ?_⟩
  obtain ⟨a1, a2, a3, a4⟩ := lay_new (o := .lst vs) g1 s1 n1 hq
  refine k _ G1 _ _ a1 a2 a3 ?_
  cases hf ds z e1 e
  exact ⟨q, vs, N, rfl, r1, a4, rfl⟩
/-- the tuple that is laid around them: shared if it is unchangeable -/
theorem lay_tup {G G' H H' N : Hp} {q : Addr} {ds : List D} {vs : List V} (g : Gr G G' H H') (s : Same N H') (n : ∀ a o, N a = some o → H a = none ∧ G' a = none) (hq : H' q = none) (r : DnA p G' ds vs N) :
    ∃ G2 N2, Gr G G2 H (upd H' q (.tup vs)) ∧ Same N2 (upd H' q (.tup vs)) ∧ (∀ a u, N2 a = some u → H a = none ∧ G2 a = none) ∧ Dn p G2 (.tup ds) (.ref q) N2 := by
  cases i : immA ds with
  | false =>
    obtain ⟨a1, a2, a3, a4⟩ := lay_new (o := .tup vs) g s n hq
    exact ⟨G', _, a1, a2, a3, .inr ⟨i, q, vs, N, rfl, r, a4, rfl⟩⟩
  | true =>
    obtain ⟨r1, rfl⟩ := DnA.imm_rp ds i r
    exact ⟨_, nil, g.trans (.new g.s hq), (fun _ _ z => nomatch z), (fun _ _ z => nomatch z), .inl ⟨i, ⟨q, vs, rfl, upd_same, RpA.mono (same_new (g.s.free hq)) _ r1⟩, rfl⟩⟩
theorem en_tup2 {ma : Option α} {mb : Option β} (ha : EvN p ta env ma) (hb : EvN p tb env mb) : EvN p (tTup (tCons ta (tCons tb tNil))) env (ma.bind fun x => mb.bind fun y => some (x, y)) := fun z e G0 H0 σ G H s Q k => by
  obtain ⟨x, e1, e⟩ := bind_some e
  obtain ⟨y, e2, e⟩ := bind_some e
  cases e
  refine ena_cons ha (ena_cons hb ena_nil) _ (by rw [e1, e2]; rfl) G0 H0 σ G H s _ fun vs G1 H1 N g1 s1 n1 r1 hl => ⟨by rw [← r1.length, hl]; exact sz_of (by decide), fun q hq => ?_⟩
  obtain ⟨G2, N2, a1, a2, a3, a4⟩ := lay_tup g1 s1 n1 hq r1
  exact k _ G2 _ _ a1 a2 a3 a4
/-- a comprehension whose items are new -/
theorem en_lc {wi : TI} {g : TG} {tt : TT} {vs js : List Nat} {mx : Option (List α)} {c : α → Option Bool} {f : α → Option β} {envI : α → List Sl} (hi : EvI p wi env mx) (hg : ∀ x, Tg p g (enc x) (wipeE env vs) (envI x) js) (hj : ∀ j ∈ js, j ∈ vs)
    (ht : ∀ x, EvT p tt (envI x) (c x)) (he : ∀ x, EvN p te (envI x) (f x)) : EvN p (tLc wi g tt te vs) env (mx.bind fun xs => lc? c f xs) := fun z e G0 H0 σ G H s Q k => by
  obtain ⟨xs, e1, e⟩ := bind_some e
  unfold lc? at e
  split at e
  · rename_i hlen
    refine hi xs e1 G0 H0 σ G H s _ fun J G1 H1 g1 it => fun Dl hD => ?_
    have s1 := s.step g1
    have hn0 := g1.s.free hD
    refine ⟨fun i m H' => m = xs.length - i ∧ i ≤ xs.length ∧ ∃ G' acc ys zs N, Gr G1 G' H1 H' ∧ G' Dl = none ∧ H' Dl = some (.lst acc) ∧ DnA p G' (ys.map enc) acc N ∧ Same N H' ∧ (∀ a o, N a = some o → H1 a = none ∧ G' a = none ∧ a ≠ Dl) ∧ ys.length ≤ i ∧ lcM c f (xs.drop i) = some zs ∧ z = ys ++ zs,
      ⟨_, rfl, Nat.zero_le _, G1, [], [], z, nil, (Gr.refl g1.s).mut hD hn0, hn0, upd_same, (show DnA p G1 (([] : List β).map enc) [] nil from ⟨rfl, rfl⟩), (fun _ _ q => nomatch q), (fun _ _ q => nomatch q), Nat.le_refl _, e, rfl⟩, ?_⟩
    rintro i m H' ⟨rfl, hle, G', acc, ys, zs, N, g2, hG, hA, rA, sN, nN, hy, hz, ez⟩
    obtain ⟨go, stop⟩ := it G' H' g2.g g2.s i
    by_cases hlt : i < xs.length
    · have hx : xs[i]? = some xs[i] := by simp [hlt]
      obtain ⟨gi, yi⟩ := go (enc xs[i]) (by rw [List.getElem?_map, hx]; rfl)
      rw [List.drop_eq_getElem_cons hlt] at hz
      obtain ⟨b, hc, hz⟩ := bind_some hz
      refine .inr ⟨gi, fun H'' => ∃ G'' acc ys zs N, Gr G1 G'' H1 H'' ∧ G'' Dl = none ∧ H'' Dl = some (.lst acc) ∧ DnA p G'' (ys.map enc) acc N ∧ Same N H'' ∧ (∀ a o, N a = some o → H1 a = none ∧ G'' a = none ∧ a ≠ Dl) ∧ ys.length ≤ i + 1 ∧ lcM c f (xs.drop (i + 1)) = some zs ∧ z = ys ++ zs,
        fun H'' q => ⟨xs.length - (i + 1), by omega, rfl, hlt, q⟩, fun x H2 y => ?_⟩
      obtain ⟨G2, g3, r3⟩ := yi x H2 y
      have g23 := g2.trans g3
      have s2 := (s1.step g23).wipes vs
      have hG2 := g3.none_of hG hA
      have hA2 := g3.h _ _ hA
      refine hg xs[i] G0 H0 (wipe σ vs) G2 H2 x s2 r3 _ fun σ' s3 w3 => ⟨?_, ?_⟩
      · rw [w3 vs hj, wipe_wipe]
      · refine ht xs[i] b hc G0 H0 σ' G2 H2 s3 _ fun G3 H3 g4 => ?_
        have hG3 := g4.none_of hG2 hA2
        have hA3 := g4.h _ _ hA2
        have sN3 := (sN.trans g3.h).trans g4.h
        have nN3 : ∀ a o, N a = some o → H1 a = none ∧ G3 a = none ∧ a ≠ Dl := fun a o q => ⟨(nN a o q).1, (g3.trans g4).none_of (nN a o q).2.1 (sN a o q), (nN a o q).2.2⟩
        cases b with
        | false => exact ⟨G3, acc, ys, zs, N, g23.trans g4, hG3, hA3, DnA.mono (g3.g.trans g4.g) _ rA, sN3, nN3, Nat.le_succ_of_le hy, hz, ez⟩
        | true =>
          obtain ⟨y1, hf, hz⟩ := bind_some hz
          obtain ⟨zs', hzs, hz⟩ := bind_some hz
          cases hz
          refine he xs[i] y1 hf G0 H0 σ' G3 H3 (s3.step g4) _ fun u G4 H4 M g5 sM nM r5 => ⟨acc, g5.h _ _ hA3, ?_, ?_⟩
          · have l1 := rA.length
            rw [List.length_map] at l1
            exact Nat.lt_of_le_of_lt (show acc.length ≤ 100000 by omega) (by decide)
          · have hG4 := g5.none_of hG3 hA3
            have dj : Dj N M := fun a o q => by
              cases w : M a with
              | none => rfl
              | some v =>
                have := (nM a v w).1
                rw [sN3 a o q] at this; cases this
            have ne : ∀ a o, un N M a = some o → a ≠ Dl := fun a o q => by
              rcases un_some q with q | q
              · exact (nN a o q).2.2
              · intro c; subst c
                have := (nM a o q).1
                rw [hA3] at this; cases this
            refine ⟨G4, acc ++ [u], ys ++ [y1], zs', un N M, ((g23.trans g4).trans g5).mut hD hG4, hG4, upd_same, ?_, fun a o q => ?_, fun a o q => ?_, by simp; omega, hzs, by simp [ez]⟩
            · rw [List.map_append]
              exact DnA.append (DnA.mono ((g3.g.trans g4.g).trans g5.g) _ rA) (.one r5) dj
            · rw [upd_ne (ne a o q)]
              exact un_same (sN3.trans g5.h) sM a o q
            · refine ⟨?_, ?_, ne a o q⟩
              · rcases un_some q with q | q
                · exact (nN a o q).1
                · exact (g23.trans g4).h.free (nM a o q).1
              · rcases un_some q with q | q
                · exact g5.none_of (nN3 a o q).2.1 (sN3 a o q)
                · exact (nM a o q).2
    · have ei : i = xs.length := by omega
      subst ei
      rw [List.drop_length] at hz
      cases hz
      rw [List.append_nil] at ez
      subst ez
      refine .inl ⟨stop (by simp) (by simp), ?_⟩
      have nD : N Dl = none := by
        cases w : N Dl with
        | none => rfl
        | some v => exact absurd rfl (nN Dl v w).2.2
      refine k _ G' H' (upd N Dl (.lst acc)) (g1.trans g2) (fun a o q => ?_) (fun a o q => ?_) ⟨Dl, acc, N, rfl, rA, nD, rfl⟩
      · by_cases c : a = Dl
        · subst c; rw [upd_same] at q; cases q; exact hA
        · rw [upd_ne c] at q; exact sN a o q
      · by_cases c : a = Dl
        · subst c; exact ⟨g1.h.free hD, hG⟩
        · rw [upd_ne c] at q; exact ⟨g1.h.free (nN a o q).1, (nN a o q).2.1⟩
  · cases e
theorem k_asgN {i : Nat} {me : Option α} {rest : α → Option ρ} (h : EvN p te env me) (k : ∀ x, Bk p tz (env.set i (.rs (dn (enc x)))) (rest x) Po) : Bk p (tSeq (tAsg te (gName i)) tz) env (me.bind rest) Po := fun r e G0 H0 σ G H st D q => by
  obtain ⟨x, e1, e⟩ := bind_some e
  refine h x e1 G0 H0 σ G H st _ fun v G1 H1 N g1 sN nN r1 => ?_
  exact k x r e G0 H0 _ G1 H1 (st.set_rs g1 r1 sN nN) D (Po.mono g1.g q)
/-- it returns what is new through and through -/
def pD (p : Pm) (β : Type) [Enc β] : Post β where
  P := fun y G0 H0 _ D => ∀ v G' H' N, Gr G0 G' H0 H' → Same N H' → (∀ a o, N a = some o → H0 a = none ∧ G' a = none) → Dn p G' (enc y) v N → D.rt v H'
  mono := fun _ h => h
theorem k_retD {me : Option β} (h : EvN p te env me) : Bk p (tRet te) env me (pD p β) := fun r e G0 H0 σ G H st D q =>
  h r e G0 H0 σ G H st _ fun v G1 H1 N g1 sN nN r1 => q v G1 H1 N (st.gr.trans g1) sN (fun a o z => ⟨st.gr.h.free (nN a o z).1, (nN a o z).2⟩) r1
theorem k_ifD {tt : TT} {mc : Option Bool} {ma mb : Option β} (h : EvT p tt env mc) (h1 : Bk p t env ma (pD p β)) (h2 : Bk p tz env mb (pD p β)) : Bk p (tSeq (tIfS tt t tNext) tz) env (mc.bind fun c => if c = true then ma else mb) (pD p β) := fun r e G0 H0 σ G H st D q => by
  obtain ⟨c, e1, e⟩ := bind_some e
  refine h c e1 G0 H0 σ G H st _ fun G1 H1 g1 => ?_
  cases c with
  | true => exact h1 r e G0 H0 σ G1 H1 (st.step g1) _ q
  | false => exact h2 r e G0 H0 σ G1 H1 (st.step g1) D q
/-- the list in slot i, of numbers, is new through and through -/
def spD (p : Pm) {τ : Type} (ea : τ → List D) (f : τ → Option γ) : Sp := fun vs H Q _ => ∃ G x z, Same G H ∧ RpA p G (ea x) vs ∧ f x = some z ∧ ∀ v G' H' N, Gr G G' H H' → Same N H' → (∀ a o, N a = some o → H a = none ∧ G' a = none) → Dn p G' (enc z) v N → Q v H'
def spD1 (p : Pm) (f : α → Option γ) : Sp := spD p (fun x => [enc x]) f
def spD2 (p : Pm) (f : α → β → Option γ) : Sp := spD p (fun x : α × β => [enc x.1, enc x.2]) fun x => f x.1 x.2
def spD3 (p : Pm) (f : α → β → δ → Option γ) : Sp := spD p (fun x : α × β × δ => [enc x.1, enc x.2.1, enc x.2.2]) fun x => f x.1 x.2.1 x.2.2
theorem en_call {τ : Type} {ea : τ → List D} {f : τ → Option γ} {E : XK} {ta : TA} {m : Option τ} (h : EvA p ta env (m.bind fun x => some (ea x))) : EvN p (tCall (spD p ea f) [] E ta) env (m.bind fun x => f x) := fun z e G0 H0 σ G H s Q k => by
  obtain ⟨x, e1, e⟩ := bind_some e
  refine h (ea x) (by rw [e1]; rfl) G0 H0 σ G H s _ fun vs G1 H1 g1 r1 => ?_
  rw [List.append_nil]
  exact ⟨G1, x, z, g1.s, r1, e, fun v G2 H2 N g2 sN nN r2 => k v G2 H2 N (g1.trans g2) sN (fun a o q => ⟨g1.h.free (nN a o q).1, (nN a o q).2⟩) r2⟩
theorem en_call1 {f : α → Option γ} {E : XK} {ma : Option α} (ha : Ev p false ta env ma) : EvN p (tCall (spD1 p f) [] E (tCons ta tNil)) env (ma.bind fun x => f x) := fun z e => en_call (m := ma) (fun x ex => ea_cons ha ea_nil x (by
  obtain ⟨y, e1, e2⟩ := bind_some ex; cases e2; rw [e1]; rfl)) z e
theorem en_call2 {f : α → β → Option γ} {E : XK} {ma : Option α} {mb : Option β} (ha : Ev p false ta env ma) (hb : Ev p false tb env mb) : EvN p (tCall (spD2 p f) [] E (tCons ta (tCons tb tNil))) env (ma.bind fun x => mb.bind fun y => f x y) := fun z e => by
  obtain ⟨x, e1, e⟩ := bind_some e
  obtain ⟨y, e2, e⟩ := bind_some e
  exact en_call (m := some (x, y)) (fun w ew => ea_cons ha (ea_cons hb ea_nil) w (by rw [e1, e2]; exact ew)) z e
theorem en_call3 {f : α → β → δ → Option γ} {E : XK} {ma : Option α} {mb : Option β} {mc : Option δ} (ha : Ev p false ta env ma) (hb : Ev p false tb env mb) (hc : Ev p false tc env mc) :
    EvN p (tCall (spD3 p f) [] E (tCons ta (tCons tb (tCons tc tNil)))) env (ma.bind fun x => mb.bind fun y => mc.bind fun w => f x y w) := fun z e => by
  obtain ⟨x, e1, e⟩ := bind_some e
  obtain ⟨y, e2, e⟩ := bind_some e
  obtain ⟨x3, e3, e⟩ := bind_some e
  exact en_call (m := some (x, y, x3)) (fun w ew => ea_cons ha (ea_cons hb (ea_cons hc ea_nil)) w (by rw [e1, e2, e3]; exact ew)) z e
variable {P : Program} {w : World} {mg : Str → Option Value} {base : Heap}
theorem def_okD {τ : Type} {ea : τ → List D} {f : τ → Option γ} {x qual : Str} {stm : Stmt} {fa : Addr} {fd : FuncData} {N ps : List Str} {k n : Nat} (F : Fun p.K x qual stm fa fd) (S : FnScope N ps (defScope stm)) (hps : ∀ a, (ea a).length = ps.length) (hN : N.length = ps.length + n)
    (body : ∀ (cdv : Value) (A : Around) (outer : List Env) (s : Shared) (H : Hp) (E : XK), Room k (A.deeper (PyProof.Rows.envOfC qual (defScope stm) s.heap.objs.size fa cdv)) →
      ∃ t, PSs (cxOf CX0 P w p.K mg base N qual (defScope stm) fa cdv A outer s H E).nox (defBody stm) t ∧ ∀ a, Bk p t ((ea a).map Sl.va ++ List.replicate n .fr) (f a) (pD p γ)) : FnOk P w p.K mg base CX0 (k + 1) fa fd ps (spD p ea f) := by
  refine F.ok S (fun vs H Q E h => ?_) fun cdv A outer s H vs Q E hr h => ?_
  · obtain ⟨G, a, z, _, r, _⟩ := h
    rw [← r.length, hps]
  · obtain ⟨G, a, z, sg, r, e, q⟩ := h
    obtain ⟨t, h1, h2⟩ := body cdv A outer s H E hr
    exact ⟨t, h1, h2 a z e G H _ G H (sts_start sg r (by rw [hN, hps])) _ q⟩

/-! ### objects: what a class has; fields; __init__ -/
structure ClF (p : Pm) (mg : Str → Option Value) (c : Nat) (x : Str) : Prop where
  cls : Cls p.K (p.cl c)
  at_ : mg x = some (.ref (p.cl c))
  ha : PySem.W.findIn p.K (.ref (p.cl c)) "__class__" = some (some (.builtin "object.__class__"))
  hn : PySem.W.specialIn p.K (.builtin "object.__class__") "__get__" = some (some (.builtin "getset_descriptor.__get__"))
  htk : PySem.W.takesIn p.K (.builtin "object.__class__") = some true
  hm : PySem.W.mroIn p.K (p.cl c) (.type "object") = some true
theorem lookup_rp {G : Hp} {f : Str} {d : D} : ∀ {fs : List (Str × D)} {xs : List (Str × V)}, RpF p G fs xs → fs.lookup f = some d → ∃ v, xs.lookup f = some v ∧ Rp p G d v
  | [], _, _, e => nomatch e
  | (g, d') :: fs, _, h, e => by
    obtain ⟨v, vs, rfl, h1, h2⟩ := h
    rw [List.lookup_cons] at e ⊢
    cases q : (f == g) with
    | true => rw [q] at e; cases e; exact ⟨v, rfl, h1⟩
    | false => rw [q] at e; exact lookup_rp h2 e
/-- o.f, o plain data -/
theorem ev_fld {f : Str} {ma : Option α} {get : α → Option β} (h : Ev p false ta env ma) (hf : ∀ x y, get x = some y → ∃ c fs, enc x = .ins c fs ∧ fs.lookup f = some (enc y) ∧ Cls p.K (p.cl c) ∧ NoAttr p.K (p.cl c) f) :
    Ev p false (tFld p.K ta f) env (ma.bind fun x => get x) := fun z e G0 H0 σ G H s Q k => by
  obtain ⟨x, e1, e⟩ := bind_some e
  obtain ⟨c, fs, q1, q2, q3, q4⟩ := hf x z e
  refine h x e1 G0 H0 σ G H s _ fun v G1 H1 g1 r1 => ?_
  rw [q1] at r1
  obtain ⟨a, dx, xs, rfl, h1, h2⟩ := r1
  obtain ⟨u, h3, h4⟩ := lookup_rp h2 q2
  exact ⟨a, _, dx, xs, u, rfl, g1.s _ _ h1, q3, q4, h3, k u G1 H1 g1 h4⟩
/-- isinstance(o, C) -/
theorem ev_isiO {c' : Nat} {ma : Option α} {f : α → Option Bool} (h : Ev p false ta env ma)
    (hf : ∀ x b, f x = some b → ∃ c fs nm, enc x = .ins c fs ∧ ClF p mg c nm ∧ PySem.W.kitOne p.K (.ref (p.cl c)) (.ref (p.cl c')) = some b) :
    Ev p false (tCB (rIsi p.K) (tCons ta (tCons (tC (.ref (p.cl c'))) tNil))) env (ma.bind fun x => f x) := fun z e G0 H0 σ G H s Q k => by
  obtain ⟨x, e1, e⟩ := bind_some e
  obtain ⟨c, fs, nm, q1, q2, q3⟩ := hf x z e
  refine h x e1 G0 H0 σ G H s _ fun v G1 H1 g1 r1 => ?_
  rw [q1] at r1
  obtain ⟨a, dx, xs, rfl, h1, h2⟩ := r1
  exact ⟨_, _, _, _, z, rfl, .own _, .base (.ins (g1.s _ _ h1) q2.cls q2.ha q2.hn q2.htk q2.hm), q3, k _ G1 H1 g1 rfl⟩
theorem putF_new {G : Hp} {f : Str} {v : V} : ∀ {fs : List (Str × D)} {xs : List (Str × V)} {F : Hp}, DnF p G fs xs F → fs.lookup f = none → putF f v xs = xs ++ [(f, v)]
  | [], _, _, h, _ => by rw [h.1]; rfl
  | (g, d) :: fs, _, _, h, e => by
    obtain ⟨u, us, A, B, rfl, h1, h2, _⟩ := h
    rw [List.lookup_cons] at e
    cases q : (f == g) with
    | true => rw [q] at e; cases e
    | false =>
      rw [q] at e
      have hne : ¬ g = f := fun c => by rw [c] at q; simp at q
      show (if g = f then _ else (g, u) :: putF f v us) = _
      rw [if_neg hne, putF_new h2 e]
      rfl
theorem dnf_len {G : Hp} : ∀ {fs : List (Str × D)} {xs : List (Str × V)} {F : Hp}, DnF p G fs xs F → xs.length = fs.length
  | [], _, _, h => by rw [h.1]; rfl
  | (g, d) :: fs, _, _, h => by
    obtain ⟨u, us, A, B, rfl, h1, h2, _⟩ := h
    simp [dnf_len h2]
/-- self.f = e, f new -/
theorem k_fldN {x : Addr} {c : Nat} {fs : List (Str × D)} {f : Str} {me : Option α} {rest : α → Option ρ} (h0 : env[0]? = some (.rs (dnAt x (.ins c fs)))) (hc : Cls p.K (p.cl c)) (hn : NoAttr p.K (p.cl c) f) (hl : fs.lookup f = none) (hs : fs.length < 1000) (h : EvN p te env me)
    (k : ∀ y, Bk p tz (env.set 0 (.rs (dnAt x (.ins c (fs ++ [(f, enc y)]))))) (rest y) Po) : Bk p (tSeq (sFld p.K (tVar 0) te f) tz) env (me.bind rest) Po := fun r e G0 H0 σ G H st D q => by
  obtain ⟨y, e1, e⟩ := bind_some e
  refine h y e1 G0 H0 σ G H st _ fun v G1 H1 N g1 sN nN r1 => ?_
  refine st.writeG g1 h0 fun v0 F b1 b2 b3 b4 wr => ?_
  obtain ⟨rfl, a, dx, xs, F', ea, d1, d2, rfl⟩ := b2
  cases ea
  have hH : H1 x = some (.ins (p.cl c) dx xs) := g1.h _ _ (b3 _ _ upd_same)
  have djN : ∀ a o, N a = some o → upd F' x (.ins (p.cl c) dx xs) a = none := fun a o z => b3.free (nN a o z).1
  have nx : ∀ a o, N a = some o → a ≠ x ∧ F' a = none := fun a o z => by
    have q := djN a o z
    by_cases cx : a = x
    · subst cx; rw [upd_same] at q; cases q
    · rw [upd_ne cx] at q; exact ⟨cx, q⟩
  refine ⟨.ref x, b1, x, _, dx, xs, rfl, hH, hc, hn, by rw [dnf_len d1]; exact hs, ?_⟩
  rw [putF_new d1 hl]
  have es : σ = σ.set 0 (some (.ref x)) := by
    obtain ⟨hi, he⟩ := List.getElem?_eq_some_iff.mp b1
    rw [← he, List.set_getElem_self]
  rw [es]
  have nF : ∀ a, un F' N a = none ↔ F' a = none ∧ N a = none := fun a => un_none
  have ux : un F' N x = none := (nF x).mpr ⟨d2, by
    cases w : N x with
    | none => rfl
    | some u => exact absurd rfl (nx x u w).1⟩
  refine k y r e G0 H0 _ G1 _ (wr (dnAt x (.ins c (fs ++ [(f, enc y)]))) (.ref x) (upd (un F' N) x (.ins (p.cl c) dx (xs ++ [(f, v)]))) (upd H1 x (.ins (p.cl c) dx (xs ++ [(f, v)]))) ⟨fun a o z => ?_, fun a z1 z2 => ?_, fun a o z1 z2 => ?_⟩ ⟨rfl, x, dx, _, un F' N, rfl, d1.append (.one r1) (fun a o q => ?_), ux, rfl⟩) D (Po.mono g1.g q)
  · by_cases cx : a = x
    · subst cx; rw [upd_same] at z ⊢; exact z
    · rw [upd_ne cx] at z ⊢
      rcases un_some z with z | z
      · have : upd F' x (.ins (p.cl c) dx xs) a = some o := by rw [upd_ne cx]; exact z
        exact g1.h _ _ (b3 _ _ this)
      · exact sN _ _ z
  · have cx : a ≠ x := fun cx => by subst cx; rw [upd_same] at z1; cases z1
    rw [upd_ne cx]
  · have cx : a ≠ x := fun cx => by subst cx; rw [upd_same] at z2; cases z2
    rw [upd_ne cx] at z1 z2
    rcases un_some z1 with z1 | z1
    · rw [z2] at z1; cases z1
    · exact nN a o z1
  · cases w : N a with
    | none => rfl
    | some u => rw [(nx a u w).2] at q; cases q
/-- __init__ of the class c: what it makes of x -/
def spI (p : Pm) (c : Nat) {τ : Type} (ea : τ → List D) (f : τ → Option γ) : Sp := fun vs H Q _ => ∃ G Hb x dx a z ws, vs = .ref x :: ws ∧ H = upd (upd Hb dx (.own x)) x (.ins (p.cl c) dx []) ∧ Hb x = none ∧ Hb dx = none ∧ dx ≠ x ∧ Same G Hb ∧ RpA p G (ea a) ws ∧ f a = some z ∧
  ∀ G' H' F', Gr G G' Hb H' → Same F' H' → (∀ a o, F' a = some o → Hb a = none ∧ G' a = none) → Dn p G' (enc z) (.ref x) F' → Q .non H'
/-- what the fields have become -/
def pI (p : Pm) (x : Addr) (γ : Type) [Enc γ] : Post γ where
  P := fun z G0 H0 _ D => ∀ σ' G' H' F', Gr G0 G' H0 H' → Same F' H' → (∀ a o, F' a = some o → H0 a = none ∧ G' a = none) → Dn p G' (enc z) (.ref x) F' → D.nx σ' H'
  mono := fun _ h => h
theorem k_endI {x : Addr} {z : γ} {d : D} (h0 : env[0]? = some (.rs (dnAt x d))) (hd : d = enc z) : Bk p tNext env (some z) (pI p x γ) := fun r e G0 H0 σ G H st D q => by
  cases e
  obtain ⟨Fs, f⟩ := st.rs
  obtain ⟨v, a1, ⟨rfl, a2⟩, a3, a4⟩ := f.wh 0 _ h0
  exact q σ G H (Fs 0) st.gr a3 (fun a o z => ⟨(a4 a o z).2, (a4 a o z).1⟩) (hd ▸ a2)
theorem init_ok {τ : Type} {c : Nat} {ea : τ → List D} {f : τ → Option γ} {x qual : Str} {stm : Stmt} {fa : Addr} {fd : FuncData} {N ps : List Str} {k n : Nat} (F : Fun p.K x qual stm fa fd) (S : FnScope N ps (defScope stm)) (hps : ∀ a, (ea a).length + 1 = ps.length) (hN : N.length = ps.length + n)
    (body : ∀ (cdv : Value) (A : Around) (outer : List Env) (s : Shared) (H : Hp) (E : XK), Room k (A.deeper (PyProof.Rows.envOfC qual (defScope stm) s.heap.objs.size fa cdv)) →
      ∃ t, PSs (cxOf CX0 P w p.K mg base N qual (defScope stm) fa cdv A outer s H E).nox (defBody stm) t ∧ ∀ y a, Bk p t (.rs (dnAt y (.ins c [])) :: ((ea a).map Sl.va ++ List.replicate n .fr)) (f a) (pI p y γ)) : FnOk P w p.K mg base CX0 (k + 1) fa fd ps (spI p c ea f) := by
  refine F.ok S (fun vs H Q E h => ?_) fun cdv A outer s H vs Q E hr h => ?_
  · obtain ⟨G, Hb, y, dx, a, z, ws, rfl, _, _, _, _, _, r, _⟩ := h
    rw [List.length_cons, ← r.length, hps]
  · obtain ⟨G, Hb, y, dx, a, z, ws, rfl, rfl, n1, n2, n3, sg, r, e, q⟩ := h
    obtain ⟨t, h1, h2⟩ := body cdv A outer s _ E hr
    refine ⟨t, h1, h2 y a z e G Hb _ G _ ?_ _ fun σ' G' H' F' g s n d => q G' H' F' g s n d⟩
    have l1 := r.length
    have l2 := hps a
    have sH : Same Hb (upd (upd Hb dx (.own y)) y (.ins (p.cl c) dx [])) := (same_new n2).trans (same_new (by rw [upd_ne (Ne.symm n3)]; exact n1))
    have st := sts_start (N := N.tail) (n := n) sg r (by rw [List.length_tail, hN]; omega)
    have es : L2.start N (V.ref y :: ws) = some (V.ref y) :: L2.start N.tail ws := by
      unfold L2.start
      rw [List.map_cons, List.cons_append, List.length_cons, List.length_tail, Nat.sub_sub, Nat.add_comm 1]
    rw [es]
    obtain ⟨gr, len, va, Fs, wh, ap⟩ := st
    have norm : ∀ (i : Nat) r', ((ea a).map Sl.va ++ List.replicate n Sl.fr)[i]? = some (.rs r') → False := fun i r' e => by
      by_cases c : i < (ea a).length
      · rw [List.getElem?_append_left (by simpa using c), List.getElem?_map] at e
        cases q : (ea a)[i]? with
        | none => rw [q] at e; cases e
        | some d' => rw [q] at e; cases e
      · rw [List.getElem?_append_right (by simp; omega), List.getElem?_replicate] at e
        split at e <;> cases e
    refine ⟨⟨.refl _, sg.trans sH, sH, fun a o h k => by rw [h] at k; cases k⟩, by simp [len], fun i d e => ?_, fun _ => sing y (.ins (p.cl c) dx []), fun i r' e => ?_, fun i j r1 r2 a o nij e e' => ?_⟩
    · cases i with
      | zero => cases e
      | succ i => exact va i d e
    · cases i with
      | zero =>
        cases e
        refine ⟨.ref y, rfl, ⟨rfl, y, dx, [], nil, rfl, ⟨rfl, rfl⟩, rfl, rfl⟩, fun a o z => ?_, fun a o z => ?_⟩
        · obtain ⟨rfl, rfl⟩ := sing_iff.mp z; exact upd_same
        · obtain ⟨rfl, rfl⟩ := sing_iff.mp z; exact ⟨sg.free n1, n1⟩
      | succ i => exact (norm i r' e).elim
    · cases i with
      | zero =>
        cases j with
        | zero => exact absurd rfl nij
        | succ j => exact (norm j r2 e').elim
      | succ i => exact (norm i r1 e).elim
/-- C(..) -/
theorem en_make {τ : Type} {c : Nat} {ea : τ → List D} {f : τ → Option γ} {E : XK} {ta : TA} {m : Option τ} (h : EvA p ta env (m.bind fun x => some (ea x))) : EvN p (tMake (p.cl c) (spI p c ea f) [] E ta) env (m.bind fun x => f x) := fun z e G0 H0 σ G H s Q k => by
  obtain ⟨x, e1, e⟩ := bind_some e
  refine h (ea x) (by rw [e1]; rfl) G0 H0 σ G H s _ fun vs G1 H1 g1 r1 => fun y dx n1 n2 n3 => ?_
  rw [List.append_nil]
  exact ⟨G1, H1, y, dx, x, z, vs, rfl, rfl, n1, n2, n3, g1.s, r1, e, fun G2 H2 N g2 sN nN r2 => ⟨rfl, k _ G2 H2 N (g1.trans g2) sN (fun a o q => ⟨g1.h.free (nN a o q).1, (nN a o q).2⟩) r2⟩⟩
def spI1 (p : Pm) (c : Nat) (f : α → Option γ) : Sp := spI p c (fun x => [enc x]) f
def spI2 (p : Pm) (c : Nat) (f : α → β → Option γ) : Sp := spI p c (fun x : α × β => [enc x.1, enc x.2]) fun x => f x.1 x.2
theorem en_make1 {c : Nat} {f : α → Option γ} {E : XK} {ma : Option α} (ha : Ev p false ta env ma) : EvN p (tMake (p.cl c) (spI1 p c f) [] E (tCons ta tNil)) env (ma.bind fun x => f x) := fun z e => by
  obtain ⟨x, e1, e⟩ := bind_some e
  exact en_make (m := some x) (fun w ew => ea_cons ha ea_nil w (by rw [e1]; exact ew)) z e
theorem en_make2 {c : Nat} {f : α → β → Option γ} {E : XK} {ma : Option α} {mb : Option β} (ha : Ev p false ta env ma) (hb : Ev p false tb env mb) : EvN p (tMake (p.cl c) (spI2 p c f) [] E (tCons ta (tCons tb tNil))) env (ma.bind fun x => mb.bind fun y => f x y) := fun z e => by
  obtain ⟨x, e1, e⟩ := bind_some e
  obtain ⟨y, e2, e⟩ := bind_some e
  exact en_make (m := some (x, y)) (fun w ew => ea_cons ha (ea_cons hb ea_nil) w (by rw [e1, e2]; exact ew)) z e
end
end PU

set_option Elab.async false
set_option maxRecDepth 100000
set_option linter.all false
/-! PU8: the answers as data; classes by name. -/
namespace PU
open PySem L2
open Enc
inductive Ans where
  | least (stay : List Int) (rows : List (List Int × Int))
  | stuck (one other : Int)
  | thrifty
  | dear (more : Int)
  | wrong (step : Int)
  | round (stay : List Int) (papers : List (List (List Int × Int)))
deriving DecidableEq
instance : Enc Ans := ⟨fun x => match x with
  | .least s r => .ins 0 [("stay", enc s), ("rows", enc r)]
  | .stuck a b => .ins 1 [("one", enc a), ("other", enc b)]
  | .thrifty => .ins 2 []
  | .dear a => .ins 3 [("more", enc a)]
  | .wrong a => .ins 4 [("step", enc a)]
  | .round s p => .ins 5 [("stay", enc s), ("papers", enc p)]⟩
def Ans.stay? : Ans → Option (List Int)
  | .least s _ => some s
  | .round s _ => some s
  | _ => none
def Ans.rows? : Ans → Option (List (List Int × Int))
  | .least _ r => some r
  | _ => none
def Ans.one? : Ans → Option Int
  | .stuck a _ => some a
  | _ => none
def Ans.other? : Ans → Option Int
  | .stuck _ a => some a
  | _ => none
def Ans.more? : Ans → Option Int
  | .dear a => some a
  | _ => none
def Ans.step? : Ans → Option Int
  | .wrong a => some a
  | _ => none
def Ans.papers? : Ans → Option (List (List (List Int × Int)))
  | .round _ p => some p
  | _ => none
def Ans.cls : Ans → Nat
  | .least .. => 0
  | .stuck .. => 1
  | .thrifty => 2
  | .dear .. => 3
  | .wrong .. => 4
  | .round .. => 5
theorem ans_cls (x : Ans) : ∃ fs, enc x = .ins x.cls fs := by
  cases x <;> exact ⟨_, rfl⟩
/-- isinstance(x, c), of the classes cs that are here -/
def Ans.isi (cs : List Nat) (c : Nat) (x : Ans) : Option Bool := if x.cls ∈ cs then some (decide (x.cls = c)) else none
/-- isinstance(x, Answer) -/
def Ans.isiA (cs : List Nat) (x : Ans) : Option Bool := if x.cls ∈ cs then some true else none

theorem lk0 {β : Type} {k : Str} {v : β} {r : List (Str × β)} : List.lookup k ((k, v) :: r) = some v := by
  rw [List.lookup_cons, show (k == k) = true from beq_self_eq_true k]
theorem lk1 {β : Type} {k g : Str} {v : β} {r : List (Str × β)} (h : (k == g) = false) : List.lookup k ((g, v) :: r) = List.lookup k r := by
  rw [List.lookup_cons, h]
/-- a class by its name: how it is made -/
structure Mak (P : Program) (w : World) (K : PySem.W.Frag) (mg : Str → Option Value) (base : Heap) (x : Str) (C : Addr) (k : Nat) (ps : List Str) (sp : Sp) : Prop where
  ex : ∃ f fd, Mk K C f ∧ FnOk P w K mg base CX0 k f fd ps sp ∧ mg x = some (.ref C) ∧ Binds K fd ps []
theorem pe_mak {X : Cx} {x : Str} {C : Addr} {k : Nat} {ps : List Str} {sp : Sp} {p pos : Pos} {e : Expr} {es : List Expr} {t : TA} (c : Mak X.prog X.w X.K X.mg X.base x C k ps sp) (hr : Room (k + 1) X.A) (hg : Gl X x) (ha : PA X (e :: es) t)
    (hdb : (x == ("__debug__" : Str)) = false := by decide) (he : starEach (e :: es) X.env = (false, eval e X.env) :: starEach es X.env := by rfl) (hpl : (backTo pos (starEach es X.env)).any (·.1) = false := by rfl) :
    PE X (.Call (.Name x p) (e :: es) [] pos) (tMake C sp [] E0 t) := by
  obtain ⟨f, fd, M, F, hm, hb⟩ := c.ex
  exact pe_make M F hr hg hm hb .nil pass0 ha hdb he hpl
theorem xe_fld (K) {X : Cx} {e : Expr} {f : Str} {pos : Pos} {ta : TE} (he : PE X e ta) (hb : attributeBase e f X.env (eval e X.env) = eval e X.env := by rfl) (hK : X.K = K := by rfl) : PE X (.Attribute e f pos) (tFld K ta f) := by
  subst hK; exact pe_fld he hb
/-- a method of the text (qual: C.m) -/
structure Dm (K : PySem.W.Frag) (C : Addr) (m qual : Str) (st : Stmt) : Prop where
  ex : ∃ f fd, Fun K m qual st f fd ∧ Meth K C m f
/-- the __init__ of the text -/
structure Di (K : PySem.W.Frag) (C : Addr) (qual : Str) (st : Stmt) : Prop where
  ex : ∃ f fd, Fun K "__init__" qual st f fd ∧ Mk K C f
section
variable {p : Pm} {env : List Sl} {ta tb tc te : TE} {mg : Str → Option Value}
theorem ev_stay {m : Option Ans} {cs : List Nat} (h : Ev p false te env m) (hc : ∀ c, c = 0 ∨ c = 5 → Cls p.K (p.cl c) ∧ NoAttr p.K (p.cl c) "stay") : Ev p false (tFld p.K te "stay") env (m.bind fun x => x.stay?) := ev_fld (get := Ans.stay?) h fun x y e => by
  cases x <;> cases e
  · exact ⟨0, _, rfl, rfl, (hc 0 (.inl rfl)).1, (hc 0 (.inl rfl)).2⟩
  · exact ⟨5, _, rfl, rfl, (hc 5 (.inr rfl)).1, (hc 5 (.inr rfl)).2⟩
/-- .stay where there is no Round -/
def Ans.stayL? : Ans → Option (List Int)
  | .least s _ => some s
  | _ => none
theorem ev_stayL {m : Option Ans} (h : Ev p false te env m) (hc : Cls p.K (p.cl 0)) (hn : NoAttr p.K (p.cl 0) "stay") : Ev p false (tFld p.K te "stay") env (m.bind fun x => Ans.stayL? x) := ev_fld (get := Ans.stayL?) h fun x y e => by
  cases x <;> cases e
  exact ⟨0, _, rfl, rfl, hc, hn⟩
theorem ev_rows {m : Option Ans} (h : Ev p false te env m) (hc : Cls p.K (p.cl 0)) (hn : NoAttr p.K (p.cl 0) "rows") : Ev p false (tFld p.K te "rows") env (m.bind fun x => Ans.rows? x) := ev_fld (get := Ans.rows?) h fun x y e => by
  cases x <;> cases e
  exact ⟨0, _, rfl, (lk1 (by decide +kernel)).trans lk0, hc, hn⟩
end
end PU

namespace PU
open PySem
theorem kit_self {K : PySem.W.Frag} {C : Addr} : PySem.W.kitOne K (.ref C) (.ref C) = some true := by
  have e : (Value.ref C == Value.ref C) = true := by simp
  unfold PySem.W.kitOne
  rw [if_pos e]
theorem kit_sub {K : PySem.W.Frag} {C C' : Addr} {b : Bool} (ne : (Value.ref C == Value.ref C') = false) (h1 : PySem.W.isClsIn K C' = true) (h2 : PySem.W.typeIn K (.ref C') = some (.type "type")) (h3 : PySem.W.subIn K (.ref C) (.ref C') = some b) : PySem.W.kitOne K (.ref C) (.ref C') = some b := by
  unfold PySem.W.kitOne
  rw [if_neg (by rw [ne]; exact Bool.false_ne_true)]
  have e : ((PySem.W.clsIn K C').isSome && PySem.W.typeIn K (.ref C') == some (.type "type")) = true := by
    rw [show (PySem.W.clsIn K C').isSome = true from h1, h2]
    rfl
  show (if _ = true then PySem.W.subIn K (.ref C) (.ref C') else none) = some b
  rw [if_pos e]
  exact h3
end PU

set_option Elab.async false
set_option maxRecDepth 100000
set_option linter.all false
/-! PU9: methods of plain objects, by the class that is found. -/
namespace PU
open PySem L2
open Enc
/-- o.m(..): o may be of any of the classes that S tells -/
def tMtA (m : Str) (S : Addr → Sp → Prop) (ta : TE) (t : TA) : TE :=
  fun σ H Q => ta σ H fun x H1 => ∃ a C dx fs sp, x = .ref a ∧ H1 a = some (.ins C dx fs) ∧ fs.lookup m = none ∧ S C sp ∧ t σ H1 fun vs H2 => sp (x :: vs) H2 Q E0
structure Mts (P : Program) (w : World) (K : PySem.W.Frag) (mg : Str → Option Value) (base : Heap) (m : Str) (k : Nat) (S : Addr → Sp → Prop) : Prop where
  ex : ∀ C sp, S C sp → ∃ f fd ps j, Cls K C ∧ Meth K C m f ∧ FnOk P w K mg base CX0 j f fd ps sp ∧ Binds K fd ps [] ∧ j ≤ k
theorem pe_mts {X : Cx} {k : Nat} {S : Addr → Sp → Prop} {m : Str} {apos pos : Pos} {o e : Expr} {es : List Expr} {ta : TE} {t : TA} {pl : Sem Bool} (c : Mts X.prog X.w X.K X.mg X.base m k S) (hr : Room k X.A) (he : PE X o ta) (ha : PA X (e :: es) t)
    (h1 : starEach (e :: es) X.env = (false, eval e X.env) :: starEach es X.env := by rfl) (h2 : (backTo pos (starEach es X.env)).any (·.1) = false := by rfl)
    (h3 : eval (.Call (.Attribute o m apos) (e :: es) [] pos) X.env = (do
      let ov ← eval o X.env
      standAt apos.atName
      let (f, first) ← holding [ov] (getMethod ov m pl); callWith pos f first (backTo pos (starEach (e :: es) X.env)) (backToKw pos (keywordEach [] X.env))) := by rfl) :
    PE X (.Call (.Attribute o m apos) (e :: es) [] pos) (tMtA m S ta t) := by
  refine ⟨fun pins s σ H Q I h => PySem.W.methodCall_KW (pl := pl) (thn (he.run pins s σ H _ I h) fun u s1 hq => ?_) h3⟩
  obtain ⟨x, H1, I1, rx, a, C, dx, fs, sp, ex, ea, l, hS, q⟩ := hq
  obtain ⟨f, fd, ps, j, hc, hm, F, hb, hj⟩ := c.ex C sp hS
  subst ex
  obtain rfl : u = Value.ref a := rx
  refine getmeth_ok I1 ea hc hm l (PySem.W.callWith_K (first := [.ref a]) (h₀ := X.base) I1.ok.mod.kin hm.kp (thn (ha.run pos pins s1 σ H1 _ I1 q) fun us s2 hq2 => ?_) h1 h2)
  obtain ⟨vs, H2, I2, r, q2⟩ := hq2
  refine ⟨I2.kIn, run_fn (us := .ref a :: us) (vs := .ref a :: vs) (dvs := []) (ds := []) F (hr.mono hj) hb .nil pass0 I2 (.cons rfl r) ?_⟩
  rw [List.append_nil]; exact q2
theorem pe_mts0 {X : Cx} {k : Nat} {S : Addr → Sp → Prop} {m : Str} {apos pos : Pos} {o : Expr} {ta : TE} {pl : Sem Bool} (c : Mts X.prog X.w X.K X.mg X.base m k S) (hr : Room k X.A) (he : PE X o ta)
    (h3 : eval (.Call (.Attribute o m apos) [] [] pos) X.env = (do
      let ov ← eval o X.env
      standAt apos.atName
      let (f, first) ← holding [ov] (getMethod ov m pl); callWith pos f first (backTo pos (starEach [] X.env)) (backToKw pos (keywordEach [] X.env))) := by rfl) :
    PE X (.Call (.Attribute o m apos) [] [] pos) (tMtA m S ta tNil) := by
  refine ⟨fun pins s σ H Q I h => PySem.W.methodCall_KW (pl := pl) (thn (he.run pins s σ H _ I h) fun u s1 hq => ?_) h3⟩
  obtain ⟨x, H1, I1, rx, a, C, dx, fs, sp, ex, ea, l, hS, q⟩ := hq
  obtain ⟨f, fd, ps, j, hc, hm, F, hb, hj⟩ := c.ex C sp hS
  subst ex
  obtain rfl : u = Value.ref a := rx
  refine getmeth_ok I1 ea hc hm l (PySem.W.callWith_K0 (first := [.ref a]) I1.kIn hm.kp (run_fn (us := [.ref a]) (vs := [.ref a]) (dvs := []) (ds := []) F (hr.mono hj) hb .nil pass0 I1 (.cons rfl .nil) ?_))
  rw [List.append_nil]; exact q
section
variable {p : Pm} {env : List Sl} {ta tb tc te td : TE} {α β γ δ ε ζ : Type} [Enc α] [Enc β] [Enc γ] [Enc δ] [Enc ε] [Enc ζ]
theorem lookup_no {G : Hp} {f : Str} : ∀ {fs : List (Str × D)} {xs : List (Str × V)}, RpF p G fs xs → fs.lookup f = none → xs.lookup f = none
  | [], _, h, _ => by rw [show _ = [] from h]; rfl
  | (g, d') :: fs, _, h, e => by
    obtain ⟨v, vs, rfl, h1, h2⟩ := h
    rw [List.lookup_cons] at e ⊢
    cases q : (f == g) with
    | true => rw [q] at e; cases e
    | false => rw [q] at e; exact lookup_no h2 e
def sp5 (p : Pm) (nw : Bool) (f : α → β → δ → ε → ζ → Option γ) : Sp := spF p nw (fun x : α × β × δ × ε × ζ => [enc x.1, enc x.2.1, enc x.2.2.1, enc x.2.2.2.1, enc x.2.2.2.2]) fun x => f x.1 x.2.1 x.2.2.1 x.2.2.2.1 x.2.2.2.2
/-- the family of the classes' own answers -/
def pick {σ : Type} (cs : List Nat) (c : Nat) (x : Option σ) : Option σ := if c ∈ cs then x else none
theorem pick_some {σ : Type} {cs : List Nat} {c : Nat} {x : Option σ} {z : σ} (h : pick cs c x = some z) : c ∈ cs ∧ x = some z := by
  unfold pick at h
  by_cases q : c ∈ cs
  · rw [if_pos q] at h; exact ⟨q, h⟩
  · rw [if_neg q] at h; cases h
theorem ev_meth {τ : Type} {nw : Bool} {ea : τ → List D} {cs : List Nat} {cl : α → Nat} {m : Str} {g : Nat → α → τ → Option γ} {S : Addr → Sp → Prop} {t : TA} {mx : Option α} {ma : Option τ} (hx : Ev p false te env mx) (ha : EvA p t env (ma.bind fun a => some (ea a)))
    (hc : ∀ x : α, ∃ fs, enc x = .ins (cl x) fs ∧ fs.lookup m = none) (hS : ∀ c ∈ cs, S (p.cl c) (spF p nw (fun y : α × τ => enc y.1 :: ea y.2) fun y => g c y.1 y.2)) :
    Ev p nw (tMtA m S te t) env (mx.bind fun x => ma.bind fun a => pick cs (cl x) (g (cl x) x a)) := fun z e G0 H0 σ G H s Q k => by
  obtain ⟨x, e1, e⟩ := bind_some e
  obtain ⟨a, e2, e⟩ := bind_some e
  obtain ⟨hi, e⟩ := pick_some e
  obtain ⟨fs, q1, q2⟩ := hc x
  refine hx x e1 G0 H0 σ G H s _ fun v G1 H1 g1 r1 => ?_
  have r1' := r1
  rw [q1] at r1'
  obtain ⟨b, dx, xs, rfl, h1, h2⟩ := r1'
  refine ⟨b, _, dx, xs, _, rfl, g1.s _ _ h1, lookup_no h2 q2, hS _ hi, ha (ea a) (by rw [e2]; rfl) G0 H0 σ G1 H1 (s.step g1) _ fun vs G2 H2 g2 r2 => ?_⟩
  exact ⟨G2, (x, a), z, g2.s, .cons (Rp.mono g2.g _ r1) r2, e, fun v G3 H3 g3 r3 => k v G3 H3 ((g1.trans g2).trans g3) (res_back (g1.trans g2).h r3)⟩
def mS0 (p : Pm) (nw : Bool) (cs : List Nat) (g : Nat → α → Option γ) : Addr → Sp → Prop := fun C sp => ∃ c ∈ cs, C = p.cl c ∧ sp = sp1 p nw (g c)
def mS2 (p : Pm) (nw : Bool) (cs : List Nat) (g : Nat → α → β → δ → Option γ) : Addr → Sp → Prop := fun C sp => ∃ c ∈ cs, C = p.cl c ∧ sp = sp3 p nw (g c)
def mS1 (p : Pm) (nw : Bool) (cs : List Nat) (g : Nat → α → β → Option γ) : Addr → Sp → Prop := fun C sp => ∃ c ∈ cs, C = p.cl c ∧ sp = sp2 p nw (g c)
def mS3 (p : Pm) (nw : Bool) (cs : List Nat) (g : Nat → α → β → δ → ε → Option γ) : Addr → Sp → Prop := fun C sp => ∃ c ∈ cs, C = p.cl c ∧ sp = sp4 p nw (g c)
def mS4 (p : Pm) (nw : Bool) (cs : List Nat) (g : Nat → α → β → δ → ε → ζ → Option γ) : Addr → Sp → Prop := fun C sp => ∃ c ∈ cs, C = p.cl c ∧ sp = sp5 p nw (g c)
variable {nw : Bool} {cs : List Nat} {cl : α → Nat} {m : Str} {ma : Option α} {mb : Option β} {mc : Option δ} {md : Option ε} {me : Option ζ}
theorem ev_meth0 {g : Nat → α → Option γ} (hx : Ev p false te env ma) (hc : ∀ x : α, ∃ fs, enc x = .ins (cl x) fs ∧ fs.lookup m = none) : Ev p nw (tMtA m (mS0 p nw cs g) te tNil) env (ma.bind fun x => pick cs (cl x) (g (cl x) x)) := fun z e => by
  obtain ⟨x, e1, e⟩ := bind_some e
  exact ev_meth (ma := some ()) (ea := fun _ => []) (g := fun c x (_ : Unit) => g c x) hx (fun w ew => ea_nil w ew) hc (fun c hi => ⟨c, hi, rfl, by
    funext vs H Q E
    refine propext ⟨fun ⟨G, y, z, h⟩ => ⟨G, y.1, z, h⟩, fun ⟨G, y, z, h⟩ => ⟨G, (y, ()), z, h⟩⟩⟩) z (by rw [e1]; exact e)
theorem ev_meth1 {g : Nat → α → β → Option γ} (hx : Ev p false te env ma) (hb : Ev p false tb env mb) (hc : ∀ x : α, ∃ fs, enc x = .ins (cl x) fs ∧ fs.lookup m = none) : Ev p nw (tMtA m (mS1 p nw cs g) te (tCons tb tNil)) env (ma.bind fun x => mb.bind fun y => pick cs (cl x) (g (cl x) x y)) := fun z e => by
  obtain ⟨x, e1, e⟩ := bind_some e
  obtain ⟨y, e2, e⟩ := bind_some e
  exact ev_meth (ma := some y) (ea := fun y => [enc y]) (g := g) hx (fun w ew => ea_cons hb ea_nil w (by rw [e2]; exact ew)) hc (fun c hi => ⟨c, hi, rfl, rfl⟩) z (by rw [e1]; exact e)
theorem ev_meth2 {g : Nat → α → β → δ → Option γ} (hx : Ev p false te env ma) (hb : Ev p false tb env mb) (hd : Ev p false tc env mc) (hc : ∀ x : α, ∃ fs, enc x = .ins (cl x) fs ∧ fs.lookup m = none) : Ev p nw (tMtA m (mS2 p nw cs g) te (tCons tb (tCons tc tNil))) env (ma.bind fun x => mb.bind fun y => mc.bind fun y2 => pick cs (cl x) (g (cl x) x y y2)) := fun z e => by
  obtain ⟨x, e1, e⟩ := bind_some e
  obtain ⟨y, e2, e⟩ := bind_some e
  obtain ⟨y2, e3, e⟩ := bind_some e
  exact ev_meth (ma := some (y, y2)) (ea := fun y => [enc y.1, enc y.2]) (g := fun c x y => g c x y.1 y.2) hx (fun w ew => ea_cons hb (ea_cons hd ea_nil) w (by rw [e2, e3]; exact ew)) hc (fun c hi => ⟨c, hi, rfl, rfl⟩) z (by rw [e1]; exact e)
theorem ev_meth3 {g : Nat → α → β → δ → ε → Option γ} (hx : Ev p false te env ma) (hb : Ev p false tb env mb) (hd : Ev p false tc env mc) (he : Ev p false td env md) (hc : ∀ x : α, ∃ fs, enc x = .ins (cl x) fs ∧ fs.lookup m = none) : Ev p nw (tMtA m (mS3 p nw cs g) te (tCons tb (tCons tc (tCons td tNil)))) env (ma.bind fun x => mb.bind fun y => mc.bind fun y2 => md.bind fun y3 => pick cs (cl x) (g (cl x) x y y2 y3)) := fun z e => by
  obtain ⟨x, e1, e⟩ := bind_some e
  obtain ⟨y, e2, e⟩ := bind_some e
  obtain ⟨y2, e3, e⟩ := bind_some e
  obtain ⟨y3, e4, e⟩ := bind_some e
  exact ev_meth (ma := some (y, y2, y3)) (ea := fun y => [enc y.1, enc y.2.1, enc y.2.2]) (g := fun c x y => g c x y.1 y.2.1 y.2.2) hx (fun w ew => ea_cons hb (ea_cons hd (ea_cons he ea_nil)) w (by rw [e2, e3, e4]; exact ew)) hc (fun c hi => ⟨c, hi, rfl, rfl⟩) z (by rw [e1]; exact e)
theorem ev_meth4 {tf : TE} {g : Nat → α → β → δ → ε → ζ → Option γ} (hx : Ev p false te env ma) (hb : Ev p false tb env mb) (hd : Ev p false tc env mc) (he : Ev p false td env md) (hf : Ev p false tf env me) (hc : ∀ x : α, ∃ fs, enc x = .ins (cl x) fs ∧ fs.lookup m = none) : Ev p nw (tMtA m (mS4 p nw cs g) te (tCons tb (tCons tc (tCons td (tCons tf tNil))))) env (ma.bind fun x => mb.bind fun y => mc.bind fun y2 => md.bind fun y3 => me.bind fun y4 => pick cs (cl x) (g (cl x) x y y2 y3 y4)) := fun z e => by
  obtain ⟨x, e1, e⟩ := bind_some e
  obtain ⟨y, e2, e⟩ := bind_some e
  obtain ⟨y2, e3, e⟩ := bind_some e
  obtain ⟨y3, e4, e⟩ := bind_some e
  obtain ⟨y4, e5, e⟩ := bind_some e
  exact ev_meth (ma := some (y, y2, y3, y4)) (ea := fun y => [enc y.1, enc y.2.1, enc y.2.2.1, enc y.2.2.2]) (g := fun c x y => g c x y.1 y.2.1 y.2.2.1 y.2.2.2) hx (fun w ew => ea_cons hb (ea_cons hd (ea_cons he (ea_cons hf ea_nil))) w (by rw [e2, e3, e4, e5]; exact ew)) hc (fun c hi => ⟨c, hi, rfl, rfl⟩) z (by rw [e1]; exact e)
/-- a class without an __init__ -/
theorem ans_no {m : Str} (h : ∀ x : Ans, ∀ fs, enc x = .ins x.cls fs → fs.lookup m = none) : ∀ x : Ans, ∃ fs, enc x = .ins x.cls fs ∧ fs.lookup m = none := fun x => by
  obtain ⟨fs, e⟩ := ans_cls x
  exact ⟨fs, e, h x fs e⟩
theorem ans_shows (x : Ans) : ∃ fs, enc x = .ins x.cls fs ∧ fs.lookup ("shows" : Str) = none := by
  cases x <;> refine ⟨_, rfl, ?_⟩ <;> first | rfl | (simp only [lk1 (show (("shows" : Str) == "stay") = false by decide +kernel), lk1 (show (("shows" : Str) == "rows") = false by decide +kernel), lk1 (show (("shows" : Str) == "one") = false by decide +kernel), lk1 (show (("shows" : Str) == "other") = false by decide +kernel), lk1 (show (("shows" : Str) == "more") = false by decide +kernel), lk1 (show (("shows" : Str) == "step") = false by decide +kernel), lk1 (show (("shows" : Str) == "papers") = false by decide +kernel)]; rfl)
end
end PU

set_option Elab.async false
set_option maxRecDepth 100000
set_option linter.all false
/-! PU10: classes without an __init__; the shelf as data; more fields; is True. -/
namespace PU
open PySem L2
open Enc
structure Mk0 (K : PySem.W.Frag) (C : Addr) : Prop where
  makes : PySem.W.makesIn K C = true
  init : PySem.W.findIn K (.ref C) "__init__" = some (some (.builtin "object.__init__"))
  kp : PySem.W.keepIn K (.ref C) = true
open PySem.W in
theorem run_mk0 {X : Cx} {C : Addr} {pins : List (Addr × Obj)} {σ : St} {H : Hp} {s : Shared} {Q : VK} (M : Mk0 X.K C) (I : Inv X pins σ H s)
    (h : ∀ x dx, H x = none → H dx = none → dx ≠ x → Q (.ref x) (upd (upd H dx (.own x)) x (.ins C dx []))) : wpAny (model X.prog X.w) X.A (PySem.call (.ref C) []) (EP X pins σ Q) X.xe s := by
  have hq := h (s.heap.objs.size + 1) s.heap.objs.size (I.hok.fresh (Nat.le_succ _)) (I.hok.fresh (Nat.le_refl _)) (Nat.ne_of_lt (Nat.lt_succ_self _))
  have I2 := Inv.made (C := C) I
  have Y := makes_of (M := model X.prog X.w) I.kIn M.makes
  obtain ⟨hh, g, d, t, os⟩ := s
  refine wpAny_call (make_map0 I.kIn M.makes M.init (fun self => Looks.of_pure (oi_bind self)) ?_)
  have ob : ((hh.push emptyDict).push (instObj C hh.objs.size)).get? (hh.objs.size + 1) = some (instObj C hh.objs.size) := by
    have := Heap.get?_push_size (hh.push emptyDict) (o := instObj C hh.objs.size) rfl
    rwa [Heap.size_push] at this
  have t1 : Looks (model X.prog X.w) ((hh.push emptyDict).push (instObj C hh.objs.size)) (typeOf (.ref (hh.objs.size + 1))) (.ref C) := (Looks.ld (part := none) ob).andThen .now
  have t2 : Looks (model X.prog X.w) ((hh.push emptyDict).push (instObj C hh.objs.size)) (isInstance (.ref (hh.objs.size + 1)) (.type "object")) true := t1.andThen (Y.top.keeps fun b o e => Heap.get?_push_of_some _ (Heap.get?_push_of_some _ e))
  refine codeAny_call_builtin oi_plain entry_oi (@check_slot (model X.prog X.w) _ _ _ "object.__init__" "object" "__init__"
    (.ref (hh.objs.size + 1)) [] [] _ oi_kind oi_split t2 (oi_args (.ref (hh.objs.size + 1))) ?_)
  rw [oi_run]
  exact wpAny_pure ⟨rfl, V.ref (hh.objs.size + 1), _, I2, rfl, hq⟩
def tMk0 (C : Addr) : TE := fun σ H Q => ∀ x dx, H x = none → H dx = none → dx ≠ x → Q (.ref x) (upd (upd H dx (.own x)) x (.ins C dx []))
structure Mak0 (K : PySem.W.Frag) (mg : Str → Option Value) (x : Str) (C : Addr) : Prop where
  ex : Mk0 K C ∧ mg x = some (.ref C)
theorem pe_mk0 {X : Cx} {x : Str} {C : Addr} {p pos : Pos} (c : Mak0 X.K X.mg x C) (hg : Gl X x) (hdb : (x == ("__debug__" : Str)) = false := by decide) : PE X (.Call (.Name x p) [] [] pos) (tMk0 C) := by
  obtain ⟨M, hm⟩ := c.ex
  refine ⟨fun pins s σ H Q I h => wpAny_Call_Name_kw (ld_glob I hg hm ?_ hdb)⟩
  exact PySem.W.callWith_K0 I.kIn M.kp (run_mk0 M I h)
/-- the shelf -/
structure Shf where
  books : List Int
  weights : List Int
  nailed : List Int
  paid : Int
  done : List (Int × Int)
instance : Enc Shf := ⟨fun x => .ins 6 [("books", enc x.books), ("weights", enc x.weights), ("nailed", enc x.nailed), ("paid", enc x.paid), ("done", enc x.done)]⟩
def shf_cls (_ : Shf) : Nat := 6
theorem shf_no {m : Str} (h0 : (m == ("books" : Str)) = false) (h1 : (m == ("weights" : Str)) = false) (h2 : (m == ("nailed" : Str)) = false) (h3 : (m == ("paid" : Str)) = false) (h4 : (m == ("done" : Str)) = false) (x : Shf) : ∃ fs, enc x = .ins (shf_cls x) fs ∧ fs.lookup m = none :=
  ⟨_, rfl, (lk1 h0).trans ((lk1 h1).trans ((lk1 h2).trans ((lk1 h3).trans (lk1 h4))))⟩
section
variable {p : Pm} {env : List Sl} {ta tb tc te td : TE} {α β γ : Type} [Enc α] [Enc β] [Enc γ]
theorem en_mk0 {c : Nat} (x : γ) (hx : enc x = .ins c []) : EvN p (tMk0 (p.cl c)) env (some x) := fun z e G0 H0 σ G H s Q k => fun a dx n1 n2 n3 => by
  cases e
  have sH : Same H (upd (upd H dx (.own a)) a (.ins (p.cl c) dx [])) := (same_new n2).trans (same_new (by rw [upd_ne (Ne.symm n3)]; exact n1))
  refine k (.ref a) G _ (sing a (.ins (p.cl c) dx [])) ⟨.refl _, s.gr.s.trans sH, sH, fun b o h q => by rw [h] at q; cases q⟩ (fun b o h => ?_) (fun b o h => ?_) ?_
  · obtain ⟨rfl, rfl⟩ := sing_iff.mp h; exact upd_same
  · obtain ⟨rfl, rfl⟩ := sing_iff.mp h; exact ⟨n1, s.gr.s.free n1⟩
  · rw [hx]
    exact ⟨a, dx, [], nil, rfl, ⟨rfl, rfl⟩, rfl, rfl⟩
theorem ev_isT {ma : Option Bool} (b : Bool) (h : Ev p false te env ma) : Ev p false (tOp rIsB te (tC (.bl b))) env (ma.bind fun x => some (decide (x = b))) := fun z e G0 H0 σ G H s Q k => by
  obtain ⟨x, e1, e⟩ := bind_some e
  cases e
  refine h x e1 G0 H0 σ G H s _ fun v G1 H1 g1 r1 => ?_
  cases (show v = .bl x from r1)
  exact ⟨x, b, rfl, rfl, k _ G1 H1 g1 rfl⟩
theorem ev_inTu {ma : Option Int} {mb : Option (Tu Int)} (ha : Ev p false ta env ma) (hb : Ev p false tb env mb) : Ev p false (tOp (rIn p.K false) ta tb) env (ma.bind fun x => mb.bind fun t => some (decide (x ∈ t.xs))) := ev_op ha hb fun x t => by
  intro z e G H v w s rv rw' Q k
  cases e
  cases (show v = .int x from rv)
  obtain ⟨a, vs, rfl, h1, h2⟩ := rw'
  cases ints_of h2
  refine ⟨a, _, rfl, .inr (.of (s _ _ h1)), rfl, flat_ints t.xs, ?_⟩
  have q := k (.bl (inV (.int x) (t.xs.map V.int))) G H (.refl s) (by rw [inV_ints]; exact rfl)
  exact q
theorem ev_notInTu {ma : Option Int} {mb : Option (Tu Int)} (ha : Ev p false ta env ma) (hb : Ev p false tb env mb) : Ev p false (tOp (rIn p.K true) ta tb) env (ma.bind fun x => mb.bind fun t => some (!decide (x ∈ t.xs))) := ev_op ha hb fun x t => by
  intro z e G H v w s rv rw' Q k
  cases e
  cases (show v = .int x from rv)
  obtain ⟨a, vs, rfl, h1, h2⟩ := rw'
  cases ints_of h2
  refine ⟨a, _, rfl, .inr (.of (s _ _ h1)), rfl, flat_ints t.xs, ?_⟩
  have q := k (.bl (!inV (.int x) (t.xs.map V.int))) G H (.refl s) (by rw [inV_ints]; exact rfl)
  exact q
theorem ev_lenP {ma : Option (α × β)} (h : Ev p false te env ma) : Ev p false (tCB (rLenQ p.K) (tCons te tNil)) env (ma.bind fun _ => some (2 : Int)) := ev_cb1 h fun xs z e G H vs s r Q k => by
  cases e
  obtain ⟨v, ws, rfl, h, rfl⟩ := r
  obtain ⟨a, us, rfl, h1, h2⟩ := h
  refine ⟨a, us, rfl, .inr (.of (s _ _ h1)), ?_⟩
  have hl : us.length = 2 := h2.length.symm
  rw [hl]
  exact k _ G H (.refl s) rfl
theorem ev_more {m : Option Ans} (h : Ev p false te env m) (hc : Cls p.K (p.cl 3)) (hn : NoAttr p.K (p.cl 3) "more") : Ev p false (tFld p.K te "more") env (m.bind fun x => Ans.more? x) := ev_fld (get := Ans.more?) h fun x y e => by
  cases x <;> cases e
  exact ⟨3, _, rfl, lk0, hc, hn⟩
theorem ev_step {m : Option Ans} (h : Ev p false te env m) (hc : Cls p.K (p.cl 4)) (hn : NoAttr p.K (p.cl 4) "step") : Ev p false (tFld p.K te "step") env (m.bind fun x => Ans.step? x) := ev_fld (get := Ans.step?) h fun x y e => by
  cases x <;> cases e
  exact ⟨4, _, rfl, lk0, hc, hn⟩
theorem ev_one {m : Option Ans} (h : Ev p false te env m) (hc : Cls p.K (p.cl 1)) (hn : NoAttr p.K (p.cl 1) "one") : Ev p false (tFld p.K te "one") env (m.bind fun x => Ans.one? x) := ev_fld (get := Ans.one?) h fun x y e => by
  cases x <;> cases e
  exact ⟨1, _, rfl, lk0, hc, hn⟩
theorem ev_other {m : Option Ans} (h : Ev p false te env m) (hc : Cls p.K (p.cl 1)) (hn : NoAttr p.K (p.cl 1) "other") : Ev p false (tFld p.K te "other") env (m.bind fun x => Ans.other? x) := ev_fld (get := Ans.other?) h fun x y e => by
  cases x <;> cases e
  exact ⟨1, _, rfl, (lk1 (by decide +kernel)).trans lk0, hc, hn⟩
theorem ev_papers {m : Option Ans} (h : Ev p false te env m) (hc : Cls p.K (p.cl 5)) (hn : NoAttr p.K (p.cl 5) "papers") : Ev p false (tFld p.K te "papers") env (m.bind fun x => Ans.papers? x) := ev_fld (get := Ans.papers?) h fun x y e => by
  cases x <;> cases e
  exact ⟨5, _, rfl, (lk1 (by decide +kernel)).trans lk0, hc, hn⟩
theorem ev_shf {β : Type} [Enc β] {f : Str} {g : Shf → β} {m : Option Shf} (h : Ev p false te env m) (hf : ∀ x : Shf, ∃ fs, enc x = .ins 6 fs ∧ fs.lookup f = some (enc (g x))) (hc : Cls p.K (p.cl 6)) (hn : NoAttr p.K (p.cl 6) f) : Ev p false (tFld p.K te f) env (m.bind fun x => some (g x)) := ev_fld (get := fun x => some (g x)) h fun x y e => by
  cases e
  obtain ⟨fs, h1, h2⟩ := hf x
  exact ⟨6, fs, h1, h2, hc, hn⟩
theorem lk_books (x : Shf) : ∃ fs, enc x = .ins 6 fs ∧ fs.lookup ("books" : Str) = some (enc x.books) := ⟨_, rfl, lk0⟩
theorem lk_weights (x : Shf) : ∃ fs, enc x = .ins 6 fs ∧ fs.lookup ("weights" : Str) = some (enc x.weights) := ⟨_, rfl, (lk1 (by decide +kernel)).trans lk0⟩
theorem lk_nailed (x : Shf) : ∃ fs, enc x = .ins 6 fs ∧ fs.lookup ("nailed" : Str) = some (enc x.nailed) := ⟨_, rfl, (lk1 (by decide +kernel)).trans ((lk1 (by decide +kernel)).trans lk0)⟩
theorem lk_paid (x : Shf) : ∃ fs, enc x = .ins 6 fs ∧ fs.lookup ("paid" : Str) = some (enc x.paid) := ⟨_, rfl, (lk1 (by decide +kernel)).trans ((lk1 (by decide +kernel)).trans ((lk1 (by decide +kernel)).trans lk0))⟩
theorem lk_done (x : Shf) : ∃ fs, enc x = .ins 6 fs ∧ fs.lookup ("done" : Str) = some (enc x.done) := ⟨_, rfl, (lk1 (by decide +kernel)).trans ((lk1 (by decide +kernel)).trans ((lk1 (by decide +kernel)).trans ((lk1 (by decide +kernel)).trans lk0)))⟩
variable {ρ δ : Type} [Enc δ] {tz : TS} {Po : Post ρ}
/-- by a tuple, unpacked; lists of one's own among the parts -/
theorem k_tupR2 {ni nj : Bool} {i j : Nat} {ma : Option α} {mb : Option β} {rest : α → β → Option ρ} (ha : Ev p ni ta env ma) (hb : Ev p nj tb env mb) (k : ∀ x y, Bk p tz ((env.set i (sl ni (enc x))).set j (sl nj (enc y))) (rest x y) Po) :
    Bk p (tSeq (tAsg (tTup (tCons ta (tCons tb tNil))) (gTup p.K 2 (gCons (gName i) (gCons (gName j) gNil)))) tz) env (ma.bind fun x => mb.bind fun y => rest x y) Po := fun r e G0 H0 σ G H st D q => by
  obtain ⟨x, e1, e⟩ := bind_some e
  obtain ⟨y, e2, e⟩ := bind_some e
  refine ha x e1 G0 H0 σ G H st _ fun v G1 H1 g1 r1 => hb y e2 G0 H0 σ G1 H1 (st.step g1) _ fun w G2 H2 g2 r2 => ?_
  refine ⟨by show 2 ≤ sizeLine; decide, fun l hl => ⟨l, [v, w], rfl, .of upd_same, rfl, v, _, rfl, w, _, rfl, rfl, ?_⟩⟩
  exact k x y r e G0 H0 _ G2 _ (((st.set_res g1 r1).set_res g2 r2).step ⟨.refl _, g2.s.trans (same_new hl), same_new hl, fun a o h z => by rw [h] at z; cases z⟩) D (Po.mono (g1.trans g2).g q)
theorem k_tupR3 {ni nj nl : Bool} {i j l : Nat} {ma : Option α} {mb : Option β} {mc : Option γ} {rest : α → β → γ → Option ρ} (ha : Ev p ni ta env ma) (hb : Ev p nj tb env mb) (hc : Ev p nl tc env mc)
    (k : ∀ x y z, Bk p tz (((env.set i (sl ni (enc x))).set j (sl nj (enc y))).set l (sl nl (enc z))) (rest x y z) Po) :
    Bk p (tSeq (tAsg (tTup (tCons ta (tCons tb (tCons tc tNil)))) (gTup p.K 3 (gCons (gName i) (gCons (gName j) (gCons (gName l) gNil))))) tz) env (ma.bind fun x => mb.bind fun y => mc.bind fun z => rest x y z) Po := fun r e G0 H0 σ G H st D q => by
  obtain ⟨x, e1, e⟩ := bind_some e
  obtain ⟨y, e2, e⟩ := bind_some e
  obtain ⟨z, e3, e⟩ := bind_some e
  refine ha x e1 G0 H0 σ G H st _ fun v G1 H1 g1 r1 => hb y e2 G0 H0 σ G1 H1 (st.step g1) _ fun w G2 H2 g2 r2 => hc z e3 G0 H0 σ G2 H2 ((st.step g1).step g2) _ fun u G3 H3 g3 r3 => ?_
  refine ⟨by show 3 ≤ sizeLine; decide, fun q hl => ⟨q, [v, w, u], rfl, .of upd_same, rfl, v, _, rfl, w, _, rfl, u, _, rfl, rfl, ?_⟩⟩
  exact k x y z r e G0 H0 _ G3 _ ((((st.set_res g1 r1).set_res g2 r2).set_res g3 r3).step ⟨.refl _, g3.s.trans (same_new hl), same_new hl, fun a o h z => by rw [h] at z; cases z⟩) D (Po.mono ((g1.trans g2).trans g3).g (by assumption))
variable {ζ : Type} [Enc ζ] {ε : Type} [Enc ε]
def spD4 (p : Pm) (f : α → β → δ → ε → Option γ) : Sp := spD p (fun x : α × β × δ × ε => [enc x.1, enc x.2.1, enc x.2.2.1, enc x.2.2.2]) fun x => f x.1 x.2.1 x.2.2.1 x.2.2.2
theorem en_call4 {f : α → β → δ → ε → Option γ} {E : XK} {ma : Option α} {mb : Option β} {mc : Option δ} {md : Option ε} (ha : Ev p false ta env ma) (hb : Ev p false tb env mb) (hc : Ev p false tc env mc) (hd : Ev p false td env md) :
    EvN p (tCall (spD4 p f) [] E (tCons ta (tCons tb (tCons tc (tCons td tNil))))) env (ma.bind fun x => mb.bind fun y => mc.bind fun w => md.bind fun u => f x y w u) := fun z e => by
  obtain ⟨x, e1, e⟩ := bind_some e
  obtain ⟨y, e2, e⟩ := bind_some e
  obtain ⟨x3, e3, e⟩ := bind_some e
  obtain ⟨x4, e4, e⟩ := bind_some e
  exact en_call (m := some (x, y, x3, x4)) (fun w ew => ea_cons ha (ea_cons hb (ea_cons hc (ea_cons hd ea_nil))) w (by rw [e1, e2, e3, e4]; exact ew)) z e
def spI3 (p : Pm) (c : Nat) (f : α → β → δ → Option γ) : Sp := spI p c (fun x : α × β × δ => [enc x.1, enc x.2.1, enc x.2.2]) fun x => f x.1 x.2.1 x.2.2
theorem en_make3 {c : Nat} {f : α → β → δ → Option γ} {E : XK} {ma : Option α} {mb : Option β} {mc : Option δ} (ha : Ev p false ta env ma) (hb : Ev p false tb env mb) (hc : Ev p false tc env mc) : EvN p (tMake (p.cl c) (spI3 p c f) [] E (tCons ta (tCons tb (tCons tc tNil)))) env (ma.bind fun x => mb.bind fun y => mc.bind fun w => f x y w) := fun z e => by
  obtain ⟨x, e1, e⟩ := bind_some e
  obtain ⟨y, e2, e⟩ := bind_some e
  obtain ⟨x3, e3, e⟩ := bind_some e
  exact en_make (m := some (x, y, x3)) (fun w ew => ea_cons ha (ea_cons hb (ea_cons hc ea_nil)) w (by rw [e1, e2, e3]; exact ew)) z e
theorem ev_call5 {nw : Bool} {f : α → β → δ → ε → ζ → Option γ} {E : XK} {tf : TE} {ma : Option α} {mb : Option β} {mc : Option δ} {md : Option ε} {me : Option ζ} (ha : Ev p false ta env ma) (hb : Ev p false tb env mb) (hc : Ev p false tc env mc) (hd : Ev p false td env md) (he : Ev p false tf env me) :
    Ev p nw (tCall (sp5 p nw f) [] E (tCons ta (tCons tb (tCons tc (tCons td (tCons tf tNil)))))) env (ma.bind fun x => mb.bind fun y => mc.bind fun z => md.bind fun w => me.bind fun u => f x y z w u) := fun r e G0 H0 σ G H s Q k => by
  obtain ⟨x, e1, e⟩ := bind_some e
  obtain ⟨y, e2, e⟩ := bind_some e
  obtain ⟨z, e3, e⟩ := bind_some e
  obtain ⟨w, e4, e⟩ := bind_some e
  obtain ⟨u, e5, e⟩ := bind_some e
  refine ha x e1 G0 H0 σ G H s _ fun v1 G1 H1 g1 r1 => hb y e2 G0 H0 σ G1 H1 (s.step g1) _ fun v2 G2 H2 g2 r2 => hc z e3 G0 H0 σ G2 H2 ((s.step g1).step g2) _ fun v3 G3 H3 g3 r3 => hd w e4 G0 H0 σ G3 H3 (((s.step g1).step g2).step g3) _ fun v4 G4 H4 g4 r4 =>
    he u e5 G0 H0 σ G4 H4 ((((s.step g1).step g2).step g3).step g4) _ fun v5 G5 H5 g5 r5 => ?_
  have g := (((g1.trans g2).trans g3).trans g4).trans g5
  exact ⟨G5, (x, y, z, w, u), r, g5.s, .cons (Rp.mono (((g2.g.trans g3.g).trans g4.g).trans g5.g) _ r1) (.cons (Rp.mono ((g3.g.trans g4.g).trans g5.g) _ r2) (.cons (Rp.mono (g4.g.trans g5.g) _ r3) (.cons (Rp.mono g5.g _ r4) (.cons r5 .nil)))), e, fun u G6 H6 g6 r6 => k u G6 H6 (g.trans g6) (res_back g.h r6)⟩
end
end PU

set_option Elab.async false
set_option maxRecDepth 100000
set_option linter.all false
/-! PU11: slices with a step. -/
namespace PU
open PySem L2 PySem.Spec PyProof.Rows
open Enc
section
variable {α : Type}
/-- xs[lo::k] -/
def pickL (xs : List α) (lo : Option Int) (k : Int) : List α := (sliceRange (sliceBounds lo none (some k) xs.length).1 (sliceBounds lo none (some k) xs.length).2.1 (sliceBounds lo none (some k) xs.length).2.2).filterMap (xs[·]?)
theorem mem_pickL {xs : List α} {lo : Option Int} {k : Int} {x : α} (h : x ∈ pickL xs lo k) : x ∈ xs := by
  unfold pickL at h
  obtain ⟨i, _, e⟩ := List.mem_filterMap.mp h
  exact List.mem_of_getElem? e
theorem pickL_len (xs : List α) (lo : Option Int) (k : Int) : (pickL xs lo k).length ≤ (sliceRange (sliceBounds lo none (some k) xs.length).1 (sliceBounds lo none (some k) xs.length).2.1 (sliceBounds lo none (some k) xs.length).2.2).length := List.length_filterMap_le _ _
end
theorem vals_pick {xs : List V} {us : List Value} (r : Vals xs us) : ∀ ix : List Nat, Vals (ix.filterMap (xs[·]?)) (ix.filterMap (us[·]?))
  | [] => .nil
  | i :: ix => by
    have ih := vals_pick r ix
    rw [List.filterMap_cons, List.filterMap_cons]
    cases e : xs[i]? with
    | none =>
      have : us[i]? = none := by
        rw [List.getElem?_eq_none_iff] at e ⊢
        rw [← r.length]; exact e
      rw [this]
      exact ih
    | some x =>
      obtain ⟨u, h1, h2⟩ := r.get e
      rw [h1]
      exact .cons h2 ih
def tSlK (K : PySem.W.Frag) (k : Int) (te : TE) (tl : TO) : TE := fun σ H Q => te σ H fun x H1 => tl σ H1 fun l H2 => ∃ a xs, x = .ref a ∧ SqL K H2 a xs ∧ ∀ p, H2 p = none → Q (.ref p) (upd H2 p (.lst (pickL xs l k)))
theorem pe_sliceK {X : Cx} {e : Expr} {te : TE} {lo : Option Expr} {tl : TO} {k : Int} {c : Nat} {p1 p3 pos : Pos} (hk : k ≠ 0) (he : PE X e te) (hl : PO X lo tl) : PE X (.Subscript e (.Slice lo none (some (.Constant (.int k) c p1)) p3) pos) (tSlK X.K k te tl) := by
  refine ⟨fun pins s σ H Q I h => Subscript_ (thn (he.run pins s σ H _ I h) fun v s1 hq => ?_)⟩
  obtain ⟨x, H1, I1, r1, q1⟩ := hq
  have hst : PO X (some (.Constant (.int k) c p1)) (tPart (tC (.int k))) := po_some pe_int
  refine wpAny_Slice (thn (hl.run pins s1 σ H1 _ I1 q1) fun vl s2 hq2 => ?_)
  obtain ⟨l, H2, I2, pl, a, xs, ex, hx, q⟩ := hq2
  subst ex
  cases r1
  refine thn (po_none.run pins s2 σ H2 (fun o H3 => o = none ∧ H3 = H2) I2 ⟨rfl, rfl⟩) fun vu s3 hq3 => ?_
  obtain ⟨u, H3, I3, pu, eu, e3⟩ := hq3
  subst eu e3
  refine thn (hst.run pins s3 σ H3 (fun o H4 => o = some k ∧ H4 = H3) I3 ⟨k, rfl, rfl, rfl⟩) fun vs s4 hq4 => ?_
  obtain ⟨o, H4, I4, ps, eo, e4⟩ := hq4
  subst eo e4
  have I5 : Inv X pins σ H4 { s4 with heap := s4.heap.push { cls := .type "slice", data := .fields #[vl, vu, vs] } } :=
    I4.kept (t' := s4.toks) fun b ob q => Heap.get?_push_of_some _ q
  obtain ⟨its, r, ht, hz⟩ := I5.list hx
  have hlen := r.length
  show wpAny (model X.prog X.w) X.A (subscriptTail e (.Slice lo none (some (.Constant (.int k) c p1)) p3) (.ref a) (.ref s4.heap.objs.size))
    (EP X pins σ Q) X.xe { s4 with heap := s4.heap.push { cls := .type "slice", data := .fields #[vl, vu, vs] } }
  refine tail_any (ops := [.ref a, .ref s4.heap.objs.size]) ht.isList.typeIs (PySem.slot_list_getitem.lookup) ?_ (by with_unfolding_all rfl)
  have k0 : some k ≠ some (0 : Int) := fun e => hk (Option.some.inj e)
  have sz : its.toArray.size ≤ sizeLine := by rw [List.size_toArray]; omega
  refine wpAny_getItem_list_slice ht.isList (Heap.IsSliceOf.new _ vl vu vs) pl pu ps k0 ?_ sz
  have e5 : slicePick its.toArray l none (some k) = (pickL its l k).toArray := by
    unfold slicePick pickL
    simp
  have ln : (pickL xs l k).length ≤ sizeLine := by
    have h1 := slicePick_size_le its.toArray l none (some k)
    rw [e5, List.size_toArray] at h1
    have h2 := (vals_pick r (sliceRange (sliceBounds l none (some k) xs.length).1 (sliceBounds l none (some k) xs.length).2.1 (sliceBounds l none (some k) xs.length).2.2)).length
    have h3 : (pickL xs l k).length = (pickL its l k).length := by
      unfold pickL
      rw [h2, hlen]
    omega
  rw [e5]
  refine ⟨.ref _, _, I5.laid (t' := s4.toks) (o := .lst (pickL xs l k)) (fun b ob q => Heap.get?_push_of_some _ q) (Nat.le_refl _) ?_, rfl, q _ (I5.hok.fresh (Nat.le_refl _))⟩
  refine ⟨ln, _, 0, ?_, Heap.get?_push_size _ rfl⟩
  unfold pickL
  rw [← hlen]
  exact vals_pick r _
section
variable {p : Pm} {env : List Sl} {ta te : TE} {α : Type} [Enc α]
theorem rpa_pick {G : Hp} {xs : List α} {vs : List V} (r : RpA p G (xs.map enc) vs) : ∀ ix : List Nat, RpA p G ((ix.filterMap (xs[·]?)).map enc) (ix.filterMap (vs[·]?))
  | [] => .nil
  | i :: ix => by
    have ih := rpa_pick r ix
    have hl : xs.length = vs.length := by rw [← r.length, List.length_map]
    rw [List.filterMap_cons, List.filterMap_cons]
    cases e : xs[i]? with
    | none =>
      have : vs[i]? = none := by
        rw [List.getElem?_eq_none_iff] at e ⊢
        omega
      rw [this]
      exact ih
    | some x =>
      obtain ⟨v, h1, h2⟩ := r.get (i := i) (d := enc x) (by rw [List.getElem?_map, e]; rfl)
      rw [h1]
      exact .cons h2 ih
theorem ev_sliceK {to : TO} {k : Int} {ma : Option (List α)} {ml : Option (Option Int)} (ha : Ev p false ta env ma) (hl : EvO p to env ml) : Ev p true (tSlK p.K k ta to) env (ma.bind fun xs => ml.bind fun l => some (pickL xs l k)) := fun z e G0 H0 σ G H s Q kk => by
  obtain ⟨xs, e1, e⟩ := bind_some e
  obtain ⟨l, e2, e⟩ := bind_some e
  cases e
  refine ha xs e1 G0 H0 σ G H s _ fun v G1 H1 g1 r1 => hl l e2 G0 H0 σ G1 H1 (s.step g1) _ fun G2 H2 g2 => ?_
  obtain ⟨a, vs, rfl, h1, h2⟩ := Rp.mono g2.g (.lst (xs.map enc)) r1
  refine ⟨a, vs, rfl, .of (g2.s _ _ h1), fun q hq => ?_⟩
  have hl : xs.length = vs.length := by rw [← h2.length, List.length_map]
  have g := g1.trans g2
  have hG : G2 q = none := g2.s.free hq
  have rp : RpA p G2 ((pickL xs l k).map enc) (pickL vs l k) := by
    unfold pickL
    rw [← hl]
    exact rpa_pick h2 _
  exact kk (.ref q) G2 _ ⟨g.g, g2.s.trans (same_new hq), g.h.trans (same_new hq), g.n⟩ ⟨q, _, _, rfl, rfl, g.h.free hq, hG, upd_same, rp⟩
end
section
variable {p : Pm} {env : List Sl} {ta tb tc td tf th : TE} {α β γ δ ε ζ η : Type} [Enc α] [Enc β] [Enc γ] [Enc δ] [Enc ε] [Enc ζ] [Enc η]
def sp6 (p : Pm) (nw : Bool) (f : α → β → δ → ε → ζ → η → Option γ) : Sp := spF p nw (fun x : α × β × δ × ε × ζ × η => [enc x.1, enc x.2.1, enc x.2.2.1, enc x.2.2.2.1, enc x.2.2.2.2.1, enc x.2.2.2.2.2]) fun x => f x.1 x.2.1 x.2.2.1 x.2.2.2.1 x.2.2.2.2.1 x.2.2.2.2.2
theorem ev_call6 {nw : Bool} {f : α → β → δ → ε → ζ → η → Option γ} {E : XK} {ma : Option α} {mb : Option β} {mc : Option δ} {md : Option ε} {me : Option ζ} {mh : Option η} (ha : Ev p false ta env ma) (hb : Ev p false tb env mb) (hc : Ev p false tc env mc) (hd : Ev p false td env md) (he : Ev p false tf env me) (hh : Ev p false th env mh) :
    Ev p nw (tCall (sp6 p nw f) [] E (tCons ta (tCons tb (tCons tc (tCons td (tCons tf (tCons th tNil))))))) env (ma.bind fun x => mb.bind fun y => mc.bind fun z => md.bind fun w => me.bind fun u => mh.bind fun v => f x y z w u v) := fun r e G0 H0 σ G H s Q k => by
  obtain ⟨x, e1, e⟩ := bind_some e
  obtain ⟨y, e2, e⟩ := bind_some e
  obtain ⟨z, e3, e⟩ := bind_some e
  obtain ⟨w, e4, e⟩ := bind_some e
  obtain ⟨u, e5, e⟩ := bind_some e
  obtain ⟨t, e6, e⟩ := bind_some e
  refine ha x e1 G0 H0 σ G H s _ fun v1 G1 H1 g1 r1 => hb y e2 G0 H0 σ G1 H1 (s.step g1) _ fun v2 G2 H2 g2 r2 => hc z e3 G0 H0 σ G2 H2 ((s.step g1).step g2) _ fun v3 G3 H3 g3 r3 => hd w e4 G0 H0 σ G3 H3 (((s.step g1).step g2).step g3) _ fun v4 G4 H4 g4 r4 =>
    he u e5 G0 H0 σ G4 H4 ((((s.step g1).step g2).step g3).step g4) _ fun v5 G5 H5 g5 r5 => hh t e6 G0 H0 σ G5 H5 (((((s.step g1).step g2).step g3).step g4).step g5) _ fun v6 G6 H6 g6 r6 => ?_
  have g := ((((g1.trans g2).trans g3).trans g4).trans g5).trans g6
  exact ⟨G6, (x, y, z, w, u, t), r, g6.s, .cons (Rp.mono ((((g2.g.trans g3.g).trans g4.g).trans g5.g).trans g6.g) _ r1) (.cons (Rp.mono (((g3.g.trans g4.g).trans g5.g).trans g6.g) _ r2) (.cons (Rp.mono ((g4.g.trans g5.g).trans g6.g) _ r3) (.cons (Rp.mono (g5.g.trans g6.g) _ r4) (.cons (Rp.mono g6.g _ r5) (.cons r6 .nil))))), e, fun u G7 H7 g7 r7 => k u G7 H7 (g.trans g7) (res_back g.h r7)⟩
end
section
variable {p : Pm} {env : List Sl} {te : TE}
theorem ev_isNT {ma : Option Bool} (b : Bool) (h : Ev p false te env ma) : Ev p false (tOp rNotB te (tC (.bl b))) env (ma.bind fun x => some (!decide (x = b))) := fun z e G0 H0 σ G H s Q k => by
  obtain ⟨x, e1, e⟩ := bind_some e
  cases e
  refine h x e1 G0 H0 σ G H s _ fun v G1 H1 g1 r1 => ?_
  cases (show v = .bl x from r1)
  exact ⟨x, b, rfl, rfl, k _ G1 H1 g1 rfl⟩
end
section
variable {X : Cx} {e : Expr} {te : TE}
theorem xe_sliceK (K) {lo : Option Expr} {tl : TO} {k : Int} {c : Nat} {p1 p3 pos : Pos} (hk : k ≠ 0) (he : PE X e te) (hl : PO X lo tl) (hK : X.K = K := by rfl) : PE X (.Subscript e (.Slice lo none (some (.Constant (.int k) c p1)) p3) pos) (tSlK K k te tl) := by
  subst hK; exact pe_sliceK hk he hl
end
end PU

set_option Elab.async false
set_option maxRecDepth 100000
set_option linter.all false
/-! PU12: what is one's own, read for a while as plain data. -/
namespace PU
open PySem L2
open Enc
/-- no tuple in F is unchangeable -/
def Own (F : Hp) : Prop := ∀ a xs, F a = some (.tup xs) → ∃ b, V.ref b ∈ xs ∧ F b ≠ none
theorem Own.nil : Own nil := fun _ _ h => nomatch h
theorem Own.un {A B : Hp} (a : Own A) (b : Own B) (d : Dj A B) : Own (un A B) := fun x xs h => by
  rcases un_some h with h | h
  · obtain ⟨y, h1, h2⟩ := a x xs h
    refine ⟨y, h1, fun z => h2 (un_none.mp z).1⟩
  · obtain ⟨y, h1, h2⟩ := b x xs h
    refine ⟨y, h1, fun z => h2 (un_none.mp z).2⟩
theorem Own.lay {A : Hp} {a : Addr} {o : HO} (h : Own A) (n : A a = none) (ho : ∀ xs, o = .tup xs → ∃ b, V.ref b ∈ xs ∧ A b ≠ none) : Own (upd A a o) := fun x xs e => by
  have up : ∀ b, A b ≠ none → upd A a o b ≠ none := fun b hb z => by
    by_cases c : b = a
    · subst c; rw [upd_same] at z; cases z
    · rw [upd_ne c] at z; exact hb z
  by_cases c : x = a
  · subst c
    rw [upd_same] at e
    obtain ⟨b, h1, h2⟩ := ho xs (Option.some.inj e)
    exact ⟨b, h1, up b h2⟩
  · rw [upd_ne c] at e
    obtain ⟨b, h1, h2⟩ := h x xs e
    exact ⟨b, h1, up b h2⟩
theorem Dn.ref {p : Pm} {G : Hp} : ∀ (d : D) {v : V} {F : Hp}, imm d = false → Dn p G d v F → ∃ b, v = .ref b ∧ F b ≠ none
  | .non, _, _, i, _ => nomatch i
  | .bl _, _, _, i, _ => nomatch i
  | .int _, _, _, i, _ => nomatch i
  | .str _, _, _, i, _ => nomatch i
  | .lst ds, _, _, _, h => by
    obtain ⟨a, xs, F', h1, h2, h3, rfl⟩ := h
    exact ⟨a, h1, by rw [upd_same]; exact fun z => nomatch z⟩
  | .tup ds, _, _, i, h => by
    rcases h with ⟨h0, _⟩ | ⟨_, a, xs, F', h1, h2, h3, rfl⟩
    · rw [show immA ds = false from i] at h0; cases h0
    · exact ⟨a, h1, by rw [upd_same]; exact fun z => nomatch z⟩
  | .scr _, _, _, _, h => nomatch h
  | .dE, _, _, _, h => nomatch h
  | .adr _, _, _, _, h => nomatch h
  | .ins c fs, _, _, _, h => by
    obtain ⟨a, dx, xs, F', h1, h2, h3, rfl⟩ := h
    exact ⟨a, h1, by rw [upd_same]; exact fun z => nomatch z⟩
theorem DnA.ref {p : Pm} {G : Hp} : ∀ (ds : List D) {vs : List V} {F : Hp}, immA ds = false → DnA p G ds vs F → ∃ b, V.ref b ∈ vs ∧ F b ≠ none
  | [], _, _, i, _ => nomatch i
  | d :: ds, _, _, i, h => by
    obtain ⟨v, vs, F1, F2, rfl, h2, h3, h4, rfl⟩ := h
    cases q : imm d with
    | false =>
      obtain ⟨b, rfl, hb⟩ := Dn.ref d q h2
      exact ⟨b, List.mem_cons_self .., fun z => hb (un_none.mp z).1⟩
    | true =>
      have i2 : immA ds = false := by
        have : (imm d && immA ds) = false := i
        rw [q] at this; simpa using this
      obtain ⟨b, hm, hb⟩ := DnA.ref ds i2 h3
      exact ⟨b, List.mem_cons_of_mem _ hm, fun z => hb (un_none.mp z).2⟩
mutual
theorem Dn.own {p : Pm} {G : Hp} : ∀ (d : D) {v : V} {F : Hp}, Dn p G d v F → Own F
  | .non, _, _, h => by rw [h.2]; exact .nil
  | .bl _, _, _, h => by rw [h.2]; exact .nil
  | .int _, _, _, h => by rw [h.2]; exact .nil
  | .str _, _, _, h => by rw [h.2]; exact .nil
  | .lst ds, _, _, h => by
    obtain ⟨a, xs, F', h1, h2, h3, rfl⟩ := h
    exact (DnA.own ds h2).lay h3 fun _ z => nomatch z
  | .tup ds, _, _, h => by
    rcases h with ⟨_, _, h2⟩ | ⟨i, a, xs, F', h1, h2, h3, rfl⟩
    · rw [h2]; exact .nil
    · exact (DnA.own ds h2).lay h3 fun ys z => by
        cases z
        exact DnA.ref ds i h2
  | .scr _, _, _, h => nomatch h
  | .dE, _, _, h => nomatch h
  | .adr _, _, _, h => nomatch h
  | .ins c fs, _, _, h => by
    obtain ⟨a, dx, xs, F', h1, h2, h3, rfl⟩ := h
    exact (DnF.own fs h2).lay h3 fun _ z => nomatch z
theorem DnA.own {p : Pm} {G : Hp} : ∀ (ds : List D) {vs : List V} {F : Hp}, DnA p G ds vs F → Own F
  | [], _, _, h => by rw [h.2]; exact .nil
  | d :: ds, _, _, h => by
    obtain ⟨v, vs, F1, F2, rfl, h2, h3, h4, rfl⟩ := h
    exact (Dn.own d h2).un (DnA.own ds h3) h4
theorem DnF.own {p : Pm} {G : Hp} : ∀ (ds : List (Str × D)) {vs : List (Str × V)} {F : Hp}, DnF p G ds vs F → Own F
  | [], _, _, h => by rw [h.2]; exact .nil
  | (f, d) :: ds, _, _, h => by
    obtain ⟨v, vs, F1, F2, rfl, h2, h3, h4, rfl⟩ := h
    exact (Dn.own d h2).un (DnF.own ds h3) h4
end
/-- G without F -/
def minus (G F : Hp) : Hp := fun a => match F a with
  | none => G a
  | some _ => none
theorem minus_some {G F : Hp} {a : Addr} {o : HO} (h : minus G F a = some o) : F a = none ∧ G a = some o := by
  unfold minus at h
  cases q : F a with
  | none => rw [q] at h; exact ⟨rfl, h⟩
  | some u => rw [q] at h; cases h
theorem minus_of {G F : Hp} {a : Addr} {o : HO} (h : F a = none) (k : G a = some o) : minus G F a = some o := by
  unfold minus; rw [h]; exact k
theorem minus_none {G F : Hp} {a : Addr} (h : G a = none) : minus G F a = none := by
  cases q : minus G F a with
  | none => rfl
  | some o => rw [(minus_some q).2] at h; cases h
mutual
theorem imm_off {p : Pm} {G F : Hp} (s : Same F G) (ow : Own F) : ∀ (d : D) {a : Addr}, imm d = true → Rp p G d (.ref a) → F a = none
  | .non, _, _, h => nomatch h
  | .bl _, _, _, h => nomatch h
  | .int _, _, _, h => nomatch h
  | .str _, _, _, h => nomatch h
  | .lst ds, _, i, _ => nomatch i
  | .tup ds, a, i, h => by
    obtain ⟨b, xs, e, h1, h2⟩ := h
    cases e
    cases q : F a with
    | none => rfl
    | some o =>
      rw [s a o q] at h1
      cases h1
      obtain ⟨c, h3, h4⟩ := ow a xs q
      exact absurd (immA_off s ow ds i h2 c h3) h4
  | .scr _, _, i, _ => nomatch i
  | .dE, _, i, _ => nomatch i
  | .adr _, _, i, _ => nomatch i
  | .ins c fs, _, i, _ => nomatch i
theorem immA_off {p : Pm} {G F : Hp} (s : Same F G) (ow : Own F) : ∀ (ds : List D) {vs : List V}, immA ds = true → RpA p G ds vs → ∀ c, V.ref c ∈ vs → F c = none
  | [], _, _, h => fun c z => by rw [show _ = [] from h] at z; cases z
  | d :: ds, _, i, h => fun c z => by
    obtain ⟨v, vs, rfl, h2, h3⟩ := h
    have ii : imm d = true ∧ immA ds = true := by simpa [immA] using i
    rcases List.mem_cons.mp z with z | z
    · subst z; exact imm_off s ow d ii.1 h2
    · exact immA_off s ow ds ii.2 h3 c z
end
mutual
theorem Rp.minus {p : Pm} {G F : Hp} (s : Same F G) (ow : Own F) : ∀ (d : D) {v : V}, imm d = true → Rp p G d v → Rp p (minus G F) d v
  | .non, _, _, h => h
  | .bl _, _, _, h => h
  | .int _, _, _, h => h
  | .str _, _, _, h => h
  | .lst ds, _, i, _ => nomatch i
  | .tup ds, _, i, h => by
    obtain ⟨a, xs, rfl, h1, h2⟩ := h
    exact ⟨a, xs, rfl, minus_of (imm_off s ow (.tup ds) i ⟨a, xs, rfl, h1, h2⟩) h1, RpA.minus s ow ds i h2⟩
  | .scr _, _, i, _ => nomatch i
  | .dE, _, i, _ => nomatch i
  | .adr _, _, i, _ => nomatch i
  | .ins c fs, _, i, _ => nomatch i
theorem RpA.minus {p : Pm} {G F : Hp} (s : Same F G) (ow : Own F) : ∀ (ds : List D) {vs : List V}, immA ds = true → RpA p G ds vs → RpA p (minus G F) ds vs
  | [], _, _, h => h
  | d :: ds, _, i, h => by
    obtain ⟨v, vs, rfl, h2, h3⟩ := h
    have ii : imm d = true ∧ immA ds = true := by simpa [immA] using i
    exact ⟨v, vs, rfl, Rp.minus s ow d ii.1 h2, RpA.minus s ow ds ii.2 h3⟩
end
mutual
theorem Dn.minus {p : Pm} {G F : Hp} (s : Same F G) (ow : Own F) : ∀ (d : D) {v : V} {N : Hp}, Dn p G d v N → Dn p (minus G F) d v N
  | .non, _, _, h => h
  | .bl _, _, _, h => h
  | .int _, _, _, h => h
  | .str _, _, _, h => h
  | .lst ds, _, _, h => by
    obtain ⟨a, xs, F', h1, h2, h3⟩ := h
    exact ⟨a, xs, F', h1, DnA.minus s ow ds h2, h3⟩
  | .tup ds, _, _, h => by
    rcases h with ⟨h0, h1, h2⟩ | ⟨h0, a, xs, F', h1, h2, h3⟩
    · exact .inl ⟨h0, Rp.minus s ow _ h0 h1, h2⟩
    · exact .inr ⟨h0, a, xs, F', h1, DnA.minus s ow ds h2, h3⟩
  | .scr _, _, _, h => nomatch h
  | .dE, _, _, h => nomatch h
  | .adr _, _, _, h => nomatch h
  | .ins c fs, _, _, h => by
    obtain ⟨a, dx, xs, F', h1, h2, h3⟩ := h
    exact ⟨a, dx, xs, F', h1, DnF.minus s ow fs h2, h3⟩
theorem DnA.minus {p : Pm} {G F : Hp} (s : Same F G) (ow : Own F) : ∀ (ds : List D) {vs : List V} {N : Hp}, DnA p G ds vs N → DnA p (minus G F) ds vs N
  | [], _, _, h => h
  | d :: ds, _, _, h => by
    obtain ⟨v, vs, F1, F2, h1, h2, h3, h4⟩ := h
    exact ⟨v, vs, F1, F2, h1, Dn.minus s ow d h2, DnA.minus s ow ds h3, h4⟩
theorem DnF.minus {p : Pm} {G F : Hp} (s : Same F G) (ow : Own F) : ∀ (ds : List (Str × D)) {vs : List (Str × V)} {N : Hp}, DnF p G ds vs N → DnF p (minus G F) ds vs N
  | [], _, _, h => h
  | (f, d) :: ds, _, _, h => by
    obtain ⟨v, vs, F1, F2, h1, h2, h3, h4⟩ := h
    exact ⟨v, vs, F1, F2, h1, Dn.minus s ow d h2, DnF.minus s ow ds h3, h4⟩
end
/-- r, frozen, stands for d -/
def Fz (r : Rs) (d : D) : Prop := ∀ {p : Pm} {G : Hp} {v : V} {F : Hp}, Dj F G → r.R p G v F → Rp p (un G F) d v ∧ Own F
theorem fz_dn {d : D} : Fz (dn d) d := fun dj h => ⟨by rw [un_comm0 dj.symm]; exact Dn.rp _ dj h, Dn.own _ h⟩
theorem fz_dnAt {x : Addr} {d : D} : Fz (dnAt x d) d := fun dj h => ⟨by rw [un_comm0 dj.symm]; exact Dn.rp _ dj h.2, Dn.own _ h.2⟩
theorem fz_own {ds : List D} : Fz (own ds) (.lst ds) := fun {p G v F} dj h => by
  obtain ⟨l, vs, rfl, rfl, h3⟩ := h
  refine ⟨⟨l, vs, rfl, same_un2 dj.symm _ _ upd_same, RpA.mono same_un1 _ h3⟩, fun a xs q => ?_⟩
  obtain ⟨_, q⟩ := sing_iff.mp q
  cases q
section
variable {p : Pm} {env env' env2 : List Sl} {σ : St} {G0 H0 G H : Hp}
theorem Sts.freezeR {i : Nat} {r : Rs} {d : D} (s : Sts p G0 H0 env σ G H) (e : env[i]? = some (.rs r)) (z : Fz r d) : ∃ F, Dj F G ∧ Own F ∧ Sts p G0 H0 (env.set i (.va d)) σ (un G F) H := by
  obtain ⟨Fs, f⟩ := s.rs
  obtain ⟨v, a1, a2, a3, a4⟩ := f.wh i _ e
  have dj : Dj (Fs i) G := fun a o h => (a4 a o h).1
  have sg : Same G (un G (Fs i)) := same_un1
  refine ⟨Fs i, dj, (z dj a2).2, ⟨s.gr.g.trans sg, un_same s.gr.s a3, s.gr.h, fun a o h k => ?_⟩, by simp [s.len], fun j d' q => ?_, Fs, fun j r' q => ?_, fun j k r1 r2 a o n q q' => ?_⟩
  · rcases un_some h with h | h
    · exact s.gr.n a o h k
    · exact (a4 a o h).2
  · rcases set_get q with ⟨rfl, q, hi⟩ | ⟨hj, q⟩
    · cases q
      exact ⟨v, a1, (z dj a2).1⟩
    · exact (s.va j d' q).imp fun v h => ⟨h.1, Rp.mono sg _ h.2⟩
  · rcases set_get q with ⟨rfl, q, hi⟩ | ⟨hj, q⟩
    · cases q
    · obtain ⟨v', b1, b2, b3, b4⟩ := f.wh j r' q
      refine ⟨v', b1, r'.mono sg b2, b3, fun a o h => ⟨un_none.mpr ⟨(b4 a o h).1, f.ap j i _ _ a o (Ne.symm hj) q e h⟩, (b4 a o h).2⟩⟩
  · rcases set_get q with ⟨_, q, _⟩ | ⟨_, q⟩
    · cases q
    · rcases set_get q' with ⟨_, q', _⟩ | ⟨_, q'⟩
      · cases q'
      · exact f.ap j k r1 r2 a o n q q'
/-- some of the slots frozen -/
inductive Frz : List Sl → List Sl → Prop
  | refl {e : List Sl} : Frz e e
  | dn {e e' : List Sl} (i : Nat) {d : D} : e[i]? = some (.rs (PU.dn d)) → Frz (e.set i (.va d)) e' → Frz e e'
  | dnAt {e e' : List Sl} (i : Nat) {x : Addr} {d : D} : e[i]? = some (.rs (PU.dnAt x d)) → Frz (e.set i (.va d)) e' → Frz e e'
  | ow {e e' : List Sl} (i : Nat) {ds : List D} : e[i]? = some (.ow ds) → Frz (e.set i (.va (.lst ds))) e' → Frz e e'
theorem Frz.sts (z : Frz env env') : ∀ {G : Hp}, Sts p G0 H0 env σ G H → ∃ F, Dj F G ∧ Own F ∧ Sts p G0 H0 env' σ (un G F) H := by
  have comp : ∀ {e e' e2 : List Sl} {G : Hp}, (∃ F, Dj F G ∧ Own F ∧ Sts p G0 H0 e σ (un G F) H) → (∀ {G : Hp}, Sts p G0 H0 e σ G H → ∃ F, Dj F G ∧ Own F ∧ Sts p G0 H0 e' σ (un G F) H) → ∃ F, Dj F G ∧ Own F ∧ Sts p G0 H0 e' σ (un G F) H := by
    intro e e' e2 G h ih
    obtain ⟨F1, d1, o1, s1⟩ := h
    obtain ⟨F2, d2, o2, s2⟩ := ih s1
    have dd : Dj F1 F2 := fun a o q => by
      cases w : F2 a with
      | none => rfl
      | some u =>
        have h5 := (un_none.mp (d2 a u w)).2
        rw [q] at h5; cases h5
    refine ⟨un F1 F2, fun a o q => ?_, o1.un o2 dd, by rw [← un_assoc]; exact s2⟩
    rcases un_some q with q | q
    · exact d1 a o q
    · exact (un_none.mp (d2 a o q)).1
  induction z with
  | refl => exact fun s => ⟨nil, dj_nil, .nil, by rw [un_nil]; exact s⟩
  | dn i e _ ih => exact fun s => comp (e2 := []) (s.freezeR e fz_dn) ih
  | dnAt i e _ ih => exact fun s => comp (e2 := []) (s.freezeR e fz_dnAt) ih
  | ow i e _ ih => exact fun s => comp (e2 := []) (s.freezeR e fz_own) ih
/-- what came to be known while F was frozen -/
theorem Gr.unfrz {F G1 H1 : Hp} (sG : Same G H) (dj : Dj F G) (g : Gr (un G F) G1 H H1) : Gr G (minus G1 F) H H1 ∧ Same F G1 := by
  have sF : Same F G1 := fun a o q => g.g a o (same_un2 dj.symm a o q)
  refine ⟨⟨fun a o q => ?_, fun a o q => g.s a o (minus_some q).2, g.h, fun a o q k => ?_⟩, sF⟩
  · refine minus_of ?_ (g.g a o (same_un1 a o q))
    cases w : F a with
    | none => rfl
    | some u => rw [dj a u w] at q; cases q
  · obtain ⟨q1, q2⟩ := minus_some q
    exact g.n a o q2 (un_none.mpr ⟨k, q1⟩)
end
section
variable {p : Pm} {env env' : List Sl} {te ta tb : TE} {tt : TT} {α β : Type} [Enc α] [Enc β]
theorem ev_frz [Imm α] {m : Option α} (z : Frz env env') (h : Ev p false te env' m) : Ev p false te env m := fun x e G0 H0 σ G H st Q k => by
  obtain ⟨F, dj, ow, st'⟩ := z.sts st
  refine h x e G0 H0 σ _ H st' Q fun v G1 H1 g r => ?_
  obtain ⟨g2, sF⟩ := g.unfrz st.gr.s dj
  exact k v _ H1 g2 (Rp.minus sF ow _ (Imm.im x) r)
/-- a new list of what is unchangeable -/
theorem ev_frzO [Imm α] {m : Option (List α)} (z : Frz env env') (h : Ev p true te env' m) : Ev p true te env m := fun x e G0 H0 σ G H st Q k => by
  obtain ⟨F, dj, ow, st'⟩ := z.sts st
  refine h x e G0 H0 σ _ H st' Q fun v G1 H1 g r => ?_
  obtain ⟨g2, sF⟩ := g.unfrz st.gr.s dj
  obtain ⟨l, vs, ds, r1, r2, r3, r4, r5, r6⟩ := r
  refine k v _ H1 g2 ⟨l, vs, ds, r1, r2, r3, minus_none r4, r5, RpA.minus sF ow ds ?_ r6⟩
  have e3 : ds = x.map enc := by
    injection r2 with r2
    exact r2.symm
  rw [e3]
  exact immA_map x
theorem en_frz {m : Option α} (z : Frz env env') (h : EvN p te env' m) : EvN p te env m := fun x e G0 H0 σ G H st Q k => by
  obtain ⟨F, dj, ow, st'⟩ := z.sts st
  refine h x e G0 H0 σ _ H st' Q fun v G1 H1 N g sN nN r => ?_
  obtain ⟨g2, sF⟩ := g.unfrz st.gr.s dj
  exact k v _ H1 N g2 sN (fun a o q => ⟨(nN a o q).1, minus_none (nN a o q).2⟩) (Dn.minus sF ow _ r)
theorem et_frz {m : Option Bool} (z : Frz env env') (h : EvT p tt env' m) : EvT p tt env m := fun x e G0 H0 σ G H st Q k => by
  obtain ⟨F, dj, ow, st'⟩ := z.sts st
  refine h x e G0 H0 σ _ H st' Q fun G1 H1 g => ?_
  obtain ⟨g2, sF⟩ := g.unfrz st.gr.s dj
  exact k _ H1 g2
end
end PU

set_option Elab.async false
set_option maxRecDepth 100000
set_option linter.all false
/-! PU13: a place within what is one's own. -/
namespace PU
open PySem L2
open Enc
theorem un_comm {A B : Hp} (d : Dj A B) : un A B = un B A := un_comm0 d
theorem dj_un {A B C : Hp} (h : Dj A (un B C)) : Dj A B ∧ Dj A C := ⟨fun a o e => (un_none.mp (h a o e)).1, fun a o e => (un_none.mp (h a o e)).2⟩
theorem un_dj {A B C : Hp} (h : Dj A B) (k : Dj A C) : Dj A (un B C) := fun a o e => un_none.mpr ⟨h a o e, k a o e⟩
theorem un_upd {A B : Hp} {a : Addr} {o : HO} (h : A a = none) : upd (un A B) a o = un A (upd B a o) := by
  funext b
  unfold un
  by_cases c : b = a
  · subst c
    rw [upd_same, h]
    simp only
    rw [upd_same]
  · rw [upd_ne c]
    cases A b with
    | some u => rfl
    | none => simp only; rw [upd_ne c]
theorem dj_upd {A B : Hp} {a : Addr} {o : HO} (h : Dj A (upd B a o)) : Dj A B ∧ A a = none := by
  constructor
  · intro b u e
    have := h b u e
    by_cases c : b = a
    · subst c; rw [upd_same] at this; cases this
    · rw [upd_ne c] at this; exact this
  · cases q : A a with
    | none => rfl
    | some u =>
      have := h a u q
      rw [upd_same] at this
      cases this
variable {p : Pm}
theorem DnA.split {G : Hp} : ∀ {ds : List D} {xs : List V} {F : Hp} {j : Nat} {d : D}, DnA p G ds xs F → ds[j]? = some d → ∃ w Fj Fo, xs[j]? = some w ∧ Dn p G d w Fj ∧ Dj Fj Fo ∧ F = un Fj Fo ∧ ∀ G' d' Fj', Same G G' → Dn p G' d' w Fj' → Dj Fj' Fo → DnA p G' (ds.set j d') xs (un Fj' Fo)
  | [], _, _, _, _, _, e => by cases e
  | d0 :: ds, xs, F, 0, d, h, e => by
    cases e
    obtain ⟨v, vs, F1, F2, rfl, h1, h2, h3, rfl⟩ := h
    exact ⟨v, F1, F2, rfl, h1, h3, rfl, fun G' d' Fj' sg k1 k2 => ⟨v, vs, Fj', F2, rfl, k1, DnA.mono sg _ h2, k2, rfl⟩⟩
  | d0 :: ds, xs, F, j + 1, d, h, e => by
    obtain ⟨v, vs, F1, F2, rfl, h1, h2, h3, rfl⟩ := h
    obtain ⟨w, Fj, Fo, q1, q2, q3, rfl, q4⟩ := DnA.split (j := j) h2 (by simpa using e)
    obtain ⟨d1, d2⟩ := dj_un h3
    refine ⟨w, Fj, un F1 Fo, by simpa using q1, q2, un_dj d1.symm q3, ?_, fun G' d' Fj' sg k1 k2 => ?_⟩
    · rw [← un_assoc, un_comm d1, un_assoc]
    · obtain ⟨k3, k4⟩ := dj_un k2
      refine ⟨v, vs, F1, un Fj' Fo, rfl, Dn.mono sg _ h1, q4 G' d' Fj' sg k1 k4, un_dj k3.symm d2, ?_⟩
      rw [← un_assoc, un_comm k3, un_assoc]
/-- the whole numbers that slots hold -/
def Ints (env : List Sl) (σ : St) : Prop := ∀ (j : Nat) (k : Int), env[j]? = some (.va (.int k)) → σ[j]? = some (some (.int k))
theorem Sts.ints {env : List Sl} {σ : St} {G0 H0 G H : Hp} (s : Sts p G0 H0 env σ G H) : Ints env σ := fun j k e => by
  obtain ⟨v, h1, h2⟩ := s.va j _ e
  cases (show v = .int k from h2)
  exact h1
structure Lens (p : Pm) (env : List Sl) (te : TE) (i : Nat) {α β : Type} [Enc α] [Enc β] (x : α) (g : Option β) (put : β → Option α) : Prop where
  run : ∀ {σ : St} {G H F : Hp} {v : V} {b : β}, Ints env σ → σ[i]? = some (some v) → Dn p G (enc x) v F → Same F H → g = some b →
    ∃ u Fe Fr, (∀ Q : VK, Q u H → te σ H Q) ∧ Dn p G (enc b) u Fe ∧ Dj Fe Fr ∧ F = un Fe Fr ∧ ∀ G' b' x' Fe', Same G G' → put b' = some x' → Dn p G' (enc b') u Fe' → Dj Fe' Fr → Dn p G' (enc x') v (un Fe' Fr)
section
variable {env : List Sl} {α β γ : Type} [Enc α] [Enc β] [Enc γ] {te tk : TE} {i : Nat} {x : α}
theorem lens_var : Lens p env (tVar i) i x (some x) some where
  run := fun {σ G H F v b} h0 h1 h2 h3 e => by
    cases e
    exact ⟨v, F, nil, fun Q q => ⟨v, h1, q⟩, h2, fun a o _ => rfl, (un_nil F).symm, fun G' b' x' Fe' _ e k _ => by cases e; rw [un_nil]; exact k⟩
def TK (env : List Sl) (tk : TE) (k : Int) : Prop := ∀ σ H (Q : VK), Ints env σ → Q (.int k) H → tk σ H Q
theorem tk_var {j : Nat} {k : Int} (h : env[j]? = some (.va (enc k))) : TK env (tVar j) k := fun σ H Q s q => ⟨_, s j k h, q⟩
theorem lens_ix {k : Int} {g : Option (List γ)} {put : List γ → Option α} (L : Lens p env te i x g put) (hk : TK env tk k) : Lens p env (tOp (rIxL p.K) te tk) i x (g.bind fun l => atI l k) (fun c => g.bind fun l => (seti? l k c).bind put) where
  run := fun {σ G H F v c} h0 h1 h2 h3 e => by
    obtain ⟨l, e1, e⟩ := bind_some e
    obtain ⟨u, Fe, Fr, q1, ⟨a, xs, F', rfl, d1, d2, rfl⟩, q3, rfl, q4⟩ := L.run h0 h1 h2 h3 e1
    have hl : l.length = xs.length := by
      have := d1.length
      rw [← this, List.length_map]
    unfold atI at e
    obtain ⟨j, ej, e⟩ := bind_some e
    obtain ⟨w, Fj, Fo, z1, z2, z3, rfl, z4⟩ := DnA.split (j := j) (d := enc c) d1 (by rw [List.getElem?_map, e]; rfl)
    have na := un_none.mp d2
    have eU : upd (un Fj Fo) a (.lst xs) = un Fj (upd Fo a (.lst xs)) := un_upd na.1
    have hH : H a = some (.lst xs) := h3 _ _ (same_un1 _ _ upd_same)
    rw [eU] at q3
    have dFr : Dj Fj Fr := fun b o h => q3 b o (by unfold un; rw [h])
    have dOr : Dj (upd Fo a (.lst xs)) Fr := fun b o h => q3 b o (by
      unfold un
      cases q : Fj b with
      | none => exact h
      | some u =>
        exfalso
        by_cases cb : b = a
        · subst cb; rw [na.1] at q; cases q
        · rw [upd_ne cb] at h
          rw [z3 b u q] at h; cases h)
    refine ⟨w, Fj, un (upd Fo a (.lst xs)) Fr, fun Q q => q1 _ (hk _ _ _ h0 ⟨a, xs, k, w, rfl, rfl, .of hH, ?_, q⟩), z2, un_dj ?_ dFr, by rw [eU, un_assoc], fun G' c' x' Fj' sg e' k1 k2 => ?_⟩
    · unfold atI
      rw [← hl, ej]
      exact z1
    · intro b o h
      by_cases cb : b = a
      · subst cb; rw [na.1] at h; cases h
      · rw [upd_ne cb]; exact z3 b o h
    · rw [e1] at e'
      obtain ⟨l', s1, s2⟩ := bind_some (show (seti? l k c').bind put = some x' from e')
      unfold seti? at s1
      rw [ej] at s1
      cases s1
      obtain ⟨k3, k4⟩ := dj_un k2
      obtain ⟨k5, k6⟩ := dj_upd k3
      have n1 : DnA p G' ((l.map enc).set j (enc c')) xs (un Fj' Fo) := z4 _ _ _ sg k1 k5
      have n2 : Dn p G' (enc (l.set j c')) (.ref a) (un Fj' (upd Fo a (.lst xs))) := ⟨a, xs, un Fj' Fo, rfl, by rw [List.map_set]; exact n1, un_none.mpr ⟨k6, na.2⟩, (un_upd k6).symm⟩
      have n3 := q4 _ _ _ _ sg s2 n2 (fun b o h => by
        rcases un_some h with h | h
        · exact k4 b o h
        · exact dOr b o h)
      rw [un_assoc] at n3
      exact n3
end
end PU

set_option Elab.async false
set_option maxRecDepth 100000
set_option linter.all false
/-! PU14: changes at a place within what is one's own. -/
namespace PU
open PySem L2
open Enc
section
variable {p : Pm} {env : List Sl} {σ : St} {G0 H0 G H : Hp}
theorem Sts.writeL {i : Nat} {r : Rs} (s : Sts p G0 H0 env σ G H) (e : env[i]? = some (.rs r)) : ∃ v F, σ[i]? = some (some v) ∧ r.R p G v F ∧ Same F H ∧ ∀ G1 H1, Gr G G1 H H1 → r.R p G1 v F ∧ (∀ a o, F a = some o → G1 a = none ∧ H0 a = none) ∧
    ∀ (r' : Rs) v' F' H', Wr2 G1 H H1 F F' H' → r'.R p G1 v' F' → Sts p G0 H0 (env.set i (.rs r')) (σ.set i (some v')) G1 H' := by
  obtain ⟨Fs, f⟩ := s.rs
  obtain ⟨v, a1, a2, a3, a4⟩ := f.wh i r e
  refine ⟨v, Fs i, a1, a2, a3, fun G1 H1 g => ?_⟩
  have f1 := f.step g
  have s1 := s.step g
  obtain ⟨v', b1, b2, b3, b4⟩ := f1.wh i r e
  rw [a1] at b1
  cases b1
  refine ⟨b2, b4, fun r' v' F' H' w h => ?_⟩
  -- what stood at H, or is known, and is not of F, stays
  have keep : ∀ {X : Hp}, Same X H1 → (∀ a o, X a = some o → Fs i a = none) → (∀ a o, X a = some o → G1 a = none → H a = none → False) → Same X H' := fun {X} sx d1 d2 a o q => by
    have h1 := d1 a o q
    cases z : F' a with
    | none => rw [w.off a h1 z]; exact sx a o q
    | some u =>
      obtain ⟨c1, c2⟩ := w.new a u z h1
      exact (d2 a o q c2 c1).elim
  have dj : ∀ {X : Hp}, (∀ a o, X a = some o → Fs i a = none) → (∀ a o, X a = some o → G1 a = none → H a = none → False) → ∀ a o, F' a = some o → X a = none := fun {X} d1 d2 a o q => by
    cases z : X a with
    | none => rfl
    | some u =>
      obtain ⟨c1, c2⟩ := w.new a o q (d1 a u z)
      exact (d2 a u z c2 c1).elim
  have dG1 : ∀ a o, G1 a = some o → Fs i a = none := fun a o q => by
    cases z : Fs i a with
    | none => rfl
    | some u => rw [(b4 a u z).1] at q; cases q
  have dG2 : ∀ a o, G1 a = some o → G1 a = none → H a = none → False := fun a o q c _ => by rw [q] at c; cases c
  have dH1 : ∀ a o, H0 a = some o → Fs i a = none := fun a o q => by
    cases z : Fs i a with
    | none => rfl
    | some u => rw [(b4 a u z).2] at q; cases q
  have dH2 : ∀ a o, H0 a = some o → G1 a = none → H a = none → False := fun a o q _ c => by
    have := s.gr.h a o q
    rw [c] at this; cases this
  have dF1 : ∀ j r1, i ≠ j → env[j]? = some (.rs r1) → ∀ a o, Fs j a = some o → Fs i a = none := fun j r1 n ej a o q => f.ap j i r1 r a o (Ne.symm n) ej e q
  have dF2 : ∀ j r1, env[j]? = some (.rs r1) → ∀ a o, Fs j a = some o → G1 a = none → H a = none → False := fun j r1 ej a o q _ c => by
    obtain ⟨_, _, _, c3, _⟩ := f.wh j r1 ej
    have := c3 a o q
    rw [c] at this; cases this
  refine ⟨⟨s1.gr.g, keep s1.gr.s dG1 dG2, keep s1.gr.h dH1 dH2, s1.gr.n⟩, by simp [s.len], va_set_rs s1.va, fun j => if i = j then F' else Fs j, fun j r1 e1 => ?_, fun j l r1 r2 a o n e1 e2 q => ?_⟩
  · rcases set_get e1 with ⟨rfl, q, hi⟩ | ⟨hj, e1⟩
    · cases q
      refine ⟨v', by rw [List.getElem?_set_self (by rw [s.len]; exact hi)], ?_⟩
      simp only [if_true]
      exact ⟨h, w.on, fun a o q => ⟨dj dG1 dG2 a o q, dj dH1 dH2 a o q⟩⟩
    · rw [List.getElem?_set_ne hj]
      simp only [if_neg hj]
      obtain ⟨v1, c1, c2, c3, c4⟩ := f1.wh j r1 e1
      exact ⟨v1, c1, c2, keep c3 (dF1 j r1 hj e1) (dF2 j r1 e1), c4⟩
  · rcases set_get e1 with ⟨rfl, _, _⟩ | ⟨hj, e1⟩
    · simp only [if_true] at q
      simp only [if_neg n]
      rcases set_get e2 with ⟨z, _, _⟩ | ⟨hk, e2⟩
      · exact absurd z n
      · exact dj (dF1 l r2 hk e2) (dF2 l r2 e2) a o q
    · simp only [if_neg hj] at q
      rcases set_get e2 with ⟨rfl, _, _⟩ | ⟨hk, e2⟩
      · simp only [if_true]
        cases z : F' a with
        | none => rfl
        | some u =>
          have := dj (dF1 j r1 hj e1) (dF2 j r1 e1) a u z
          rw [q] at this; cases this
      · simp only [if_neg hk]
        exact f.ap j l r1 r2 a o n e1 e2 q
end
/-- one's own through and through, its value told or not -/
class Dl (r : D → Rs) : Prop where
  of : ∀ {p : Pm} {G : Hp} {v : V} {F : Hp} {d : D}, (r d).R p G v F → Dn p G d v F
  back : ∀ {p : Pm} {G G' : Hp} {v : V} {F F' : Hp} {d d' : D}, (r d).R p G v F → Dn p G' d' v F' → (r d').R p G' v F'
instance : Dl dn := ⟨fun h => h, fun _ h => h⟩
instance {x : Addr} : Dl (dnAt x) := ⟨fun h => h.2, fun h k => ⟨h.1, k⟩⟩
section
variable {p : Pm} {env : List Sl} {te ta tz : TE} {r : D → Rs} [Dl r] {α β γ ρ : Type} [Enc α] [Enc β] [Enc γ] {Po : Post ρ} {i : Nat} {x : α}
/-- a list at a place within what is one's own, changed where it stands: l becomes l' -/
theorem Sts.lensW {σ : St} {G0 H0 G H : Hp} {g : Option (List γ)} {put : List γ → Option α} {l : List γ} (st : Sts p G0 H0 env σ G H) (h : env[i]? = some (.rs (r (enc x)))) (L : Lens p env te i x g put) (hg : g = some l) :
    ∃ a xs F' , (∀ Q : VK, Q (.ref a) H → te σ H Q) ∧ H a = some (.lst xs) ∧ DnA p G (l.map enc) xs F' ∧ Same F' H ∧ F' a = none ∧
      ∀ G1 H1 N l' x' xs' F'', Gr G G1 H H1 → Same N H1 → (∀ a o, N a = some o → H a = none ∧ G1 a = none) → put l' = some x' → DnA p G1 (l'.map enc) xs' F'' → (∀ b o, F'' b = some o → F' b = some o ∨ N b = some o) →
        Sts p G0 H0 (env.set i (.rs (r (enc x')))) σ G1 (upd H1 a (.lst xs')) := by
  obtain ⟨v, F, a1, a2, a3, wr⟩ := st.writeL h
  obtain ⟨u, Fe, Fr, q1, ⟨a, xs, F', rfl, d1, d2, rfl⟩, q3, rfl, q4⟩ := L.run st.ints a1 (Dl.of a2) a3 hg
  have hFa : un (upd F' a (.lst xs)) Fr a = some (.lst xs) := same_un1 _ _ upd_same
  have sF' : Same F' (un (upd F' a (.lst xs)) Fr) := (same_new d2).trans same_un1
  refine ⟨a, xs, F', q1, a3 _ _ hFa, d1, sF'.trans a3, d2, fun G1 H1 N l' x' xs' F'' g sN nN hp dA sub => ?_⟩
  obtain ⟨w1, w2, w3⟩ := wr G1 H1 g
  have Fra : Fr a = none := q3 a _ upd_same
  have na : F'' a = none := by
    cases z : F'' a with
    | none => rfl
    | some o =>
      rcases sub a o z with z | z
      · rw [d2] at z; cases z
      · have := (nN a o z).1
        rw [a3 _ _ hFa] at this; cases this
  have djn : Dj (upd F'' a (.lst xs')) Fr := fun b o z => by
    by_cases c : b = a
    · subst c; exact Fra
    · rw [upd_ne c] at z
      rcases sub b o z with z | z
      · exact q3 b o (by rw [upd_ne c]; exact z)
      · cases y : Fr b with
        | none => rfl
        | some o' =>
          have := a3 b o' (by unfold un; rw [show upd F' a (.lst xs) b = none from by
            cases y2 : upd F' a (.lst xs) b with
            | none => rfl
            | some o2 => rw [q3 b o2 y2] at y; cases y]; exact y)
          rw [(nN b o z).1] at this; cases this
  have nd := q4 G1 l' x' (upd F'' a (.lst xs')) g.g hp ⟨a, xs', F'', rfl, dA, na, rfl⟩ djn
  have fin := wr G1 H1 g
  have es : σ = σ.set i (some v) := by
    obtain ⟨hi, he⟩ := List.getElem?_eq_some_iff.mp a1
    rw [← he, List.set_getElem_self]
  rw [es]
  refine w3 (r (enc x')) v (un (upd F'' a (.lst xs')) Fr) _ ⟨fun b o z => ?_, fun b z1 z2 => ?_, fun b o z1 z2 => ?_⟩ (Dl.back a2 nd)
  · rcases un_some z with y0 | y0
    · by_cases c : b = a
      · subst c; rw [upd_same] at y0 ⊢; exact y0
      · rw [upd_ne c] at y0 ⊢
        rcases sub b o y0 with y1 | y1
        · exact g.h _ _ (a3 _ _ (sF' _ _ y1))
        · exact sN _ _ y1
    · have c : b ≠ a := fun c => by rw [c, Fra] at y0; cases y0
      rw [upd_ne c]
      refine g.h _ _ (a3 b o ?_)
      unfold un
      cases y : upd F' a (.lst xs) b with
      | none => exact y0
      | some o' => rw [q3 b o' y] at y0; cases y0
  · have c : b ≠ a := fun c => by rw [c, hFa] at z1; cases z1
    rw [upd_ne c]
  · rcases un_some z1 with y0 | y0
    · by_cases c : b = a
      · rw [c, hFa] at z2; cases z2
      · rw [upd_ne c] at y0
        rcases sub b o y0 with y1 | y1
        · have := sF' _ _ y1
          rw [z2] at this; cases this
        · exact nN b o y1
    · have := (un_none.mp z2).2
      rw [this] at y0; cases y0
end
end PU

set_option Elab.async false
set_option maxRecDepth 100000
set_option linter.all false
/-! PU15: append, reverse, pop at a place within what is one's own. -/
namespace PU
open PySem L2
open Enc
variable {p : Pm} {G : Hp}
theorem DnA.take : ∀ {ds : List D} {xs : List V} {F : Hp} (n : Nat), DnA p G ds xs F → ∃ F', DnA p G (ds.take n) (xs.take n) F' ∧ ∀ a o, F' a = some o → F a = some o
  | [], xs, F, n, h => by
    obtain ⟨rfl, rfl⟩ := h
    exact ⟨nil, by simp only [List.take_nil]; exact ⟨rfl, rfl⟩, fun a o e => by cases e⟩
  | d :: ds, xs, F, 0, h => ⟨nil, by simp only [List.take_zero]; exact ⟨rfl, rfl⟩, fun a o e => by cases e⟩
  | d :: ds, xs, F, n + 1, h => by
    obtain ⟨v, vs, F1, F2, rfl, h1, h2, h3, rfl⟩ := h
    obtain ⟨F', k1, k2⟩ := DnA.take n h2
    refine ⟨un F1 F', ⟨v, vs.take n, F1, F', rfl, h1, k1, fun a o e => ?_, rfl⟩, fun a o e => ?_⟩
    · cases q : F' a with
      | none => rfl
      | some u =>
        have h5 := k2 a u q
        rw [h3 a o e] at h5; cases h5
    · rcases un_some e with e | e
      · exact same_un1 _ _ e
      · exact same_un2 h3 _ _ (k2 a o e)
theorem DnA.drop1 {d : D} {ds : List D} {xs : List V} {F : Hp} (h : DnA p G (d :: ds) xs F) : ∃ F', DnA p G ds (xs.drop 1) F' ∧ ∀ a o, F' a = some o → F a = some o := by
  obtain ⟨v, vs, F1, F2, rfl, h1, h2, h3, rfl⟩ := h
  exact ⟨F2, h2, fun a o e => same_un2 h3 _ _ e⟩
theorem DnA.len : ∀ {ds : List D} {xs : List V} {F : Hp}, DnA p G ds xs F → xs.length = ds.length := fun h => h.length.symm
theorem DnA.rev : ∀ {ds : List D} {xs : List V} {F : Hp}, DnA p G ds xs F → DnA p G ds.reverse xs.reverse F
  | [], xs, F, h => by
    obtain ⟨rfl, rfl⟩ := h
    exact ⟨rfl, rfl⟩
  | d :: ds, xs, F, h => by
    obtain ⟨v, vs, F1, F2, rfl, h1, h2, h3, rfl⟩ := h
    rw [List.reverse_cons, List.reverse_cons, un_comm h3]
    exact DnA.append (DnA.rev h2) (DnA.one h1) h3.symm
section
variable {env : List Sl} {te ta : TE} {tz : TS} {w : D → Rs} [Dl w] {α β γ ρ : Type} [Enc α] [Enc β] [Enc γ] {Po : Post ρ} {i : Nat} {x : α}
theorem k_appL {g : Option (List γ)} {put : List γ → Option α} {me : Option γ} {rest : α → Option ρ} (h : env[i]? = some (.rs (w (enc x)))) (L : Lens p env te i x g put) (he : EvN p ta env me) (k : ∀ x', Bk p tz (env.set i (.rs (w (enc x')))) (rest x') Po) :
    Bk p (tSeq (tDrop (tBM p.K "list" rAppend te (tCons ta tNil))) tz) env (g.bind fun l => me.bind fun e => (app? l e).bind fun l' => (put l').bind rest) Po := fun r e G0 H0 σ G H st D q => by
  obtain ⟨l, e1, f1⟩ := bind_some e
  obtain ⟨y, e2, f2⟩ := bind_some f1
  obtain ⟨l', e3, f3⟩ := bind_some f2
  obtain ⟨x', e4, f4⟩ := bind_some f3
  obtain ⟨a, xs, F', q1, q2, q3, q4, q5, q6⟩ := st.lensW h L e1
  unfold app? at e3
  split at e3
  · rename_i hl
    cases e3
    refine q1 _ ⟨.inl ⟨rfl, _, .of q2⟩, ?_⟩
    refine he y e2 G0 H0 σ G H st _ fun v G1 H1 N g1 sN nN r1 => ?_
    have ll := DnA.len q3
    rw [List.length_map] at ll
    refine ⟨a, xs, v, rfl, rfl, g1.h _ _ q2, Nat.lt_of_le_of_lt (show xs.length ≤ 100000 by omega) (by decide), ?_⟩
    have dj : Dj F' N := fun b o z => by
      cases w : N b with
      | none => rfl
      | some u =>
        have h5 := q4 b o z
        rw [(nN b u w).1] at h5; cases h5
    refine k x' r f4 G0 H0 σ G1 _ (q6 G1 H1 N _ x' _ (un F' N) g1 sN nN e4 (by rw [List.map_append]; exact DnA.append (DnA.mono g1.g _ q3) (DnA.one r1) dj) fun b o z => un_some z) D (Po.mono g1.g q)
  · cases e3
theorem k_revL {g : Option (List γ)} {put : List γ → Option α} {rest : α → Option ρ} (h : env[i]? = some (.rs (w (enc x)))) (L : Lens p env te i x g put) (k : ∀ x', Bk p tz (env.set i (.rs (w (enc x')))) (rest x') Po) :
    Bk p (tSeq (tDrop (tBM0 p.K "list" rReverse te)) tz) env (g.bind fun l => (put l.reverse).bind rest) Po := fun r e G0 H0 σ G H st D q => by
  obtain ⟨l, e1, e⟩ := bind_some e
  obtain ⟨x', e4, e⟩ := bind_some e
  obtain ⟨a, xs, F', q1, q2, q3, q4, q5, q6⟩ := st.lensW h L e1
  refine q1 _ ⟨.inl ⟨rfl, _, .of q2⟩, a, xs, rfl, rfl, q2, ?_⟩
  exact k x' r e G0 H0 σ G _ (q6 G H nil _ x' _ F' (.refl st.gr.s) (fun b o z => by cases z) (fun b o z => by cases z) e4 (by rw [List.map_reverse]; exact DnA.rev q3) fun b o z => .inl z) D (Po.mono (.refl _) q)
theorem k_popL {g : Option (List γ)} {put : List γ → Option α} {rest : α → Option ρ} (h : env[i]? = some (.rs (w (enc x)))) (L : Lens p env te i x g put) (k : ∀ x', Bk p tz (env.set i (.rs (w (enc x')))) (rest x') Po) :
    Bk p (tSeq (tDrop (tBM0 p.K "list" rPop te)) tz) env (g.bind fun l => if l = [] then none else (put l.dropLast).bind rest) Po := fun r e G0 H0 σ G H st D q => by
  obtain ⟨l, e1, e⟩ := bind_some e
  split at e
  · cases e
  · rename_i hne
    obtain ⟨x', e4, e⟩ := bind_some e
    obtain ⟨a, xs, F', q1, q2, q3, q4, q5, q6⟩ := st.lensW h L e1
    have ll := DnA.len q3
    rw [List.length_map] at ll
    have lp := List.length_pos_iff.mpr hne
    obtain ⟨F2, k1, k2⟩ := DnA.take (l.length - 1) q3
    refine q1 _ ⟨.inl ⟨rfl, _, .of q2⟩, a, xs, xs[xs.length - 1], rfl, rfl, q2, List.getElem?_eq_getElem (by omega), ?_⟩
    rw [List.dropLast_eq_take]
    refine k x' r e G0 H0 σ G _ (q6 G H nil l.dropLast x' _ F2 (.refl st.gr.s) (fun b o z => by cases z) (fun b o z => by cases z) e4 ?_ fun b o z => .inl (k2 b o z)) D (Po.mono (.refl _) q)
    rw [List.dropLast_eq_take, List.map_take, ll]
    exact k1
end
end PU

set_option Elab.async false
set_option maxRecDepth 100000
set_option linter.all false
/-! PU16: places within pairs and objects; pop(0), setting an item. -/
namespace PU
open PySem L2
open Enc
variable {p : Pm} {env : List Sl}
/-- the place of the first, the second of a pair -/
theorem lens_fst {α β γ : Type} [Enc α] [Enc β] [Enc γ] {te tk : TE} {i : Nat} {x : α} {g : Option (β × γ)} {put : β × γ → Option α} (L : Lens p env te i x g put) (hn : ∀ b : β, imm (enc b) = false) (hk : TK env tk 0) : Lens p env (tOp (rIxT p.K) te tk) i x (g.map (·.1)) (fun c => g.bind fun q => put (c, q.2)) where
  run := fun {σ G H F v c} h0 h1 h2 h3 e => by
    cases hg : g with
    | none => rw [hg] at e; cases e
    | some q =>
      rw [hg] at e
      cases e
      have ni : ∀ b : β × γ, immA [enc b.1, enc b.2] = false := fun b => by
        show (imm (enc b.1) && _) = false
        rw [hn b.1]; rfl
      obtain ⟨u, Fe, Fr, q1, q2, q3, rfl, q4⟩ := L.run h0 h1 h2 h3 hg
      rcases q2 with ⟨h0', _⟩ | ⟨_, a, xs, F', rfl, d1, d2, rfl⟩
      · rw [ni q] at h0'; cases h0'
      obtain ⟨w, Fj, Fo, z1, z2, z3, rfl, z4⟩ := DnA.split (j := 0) (d := enc q.1) d1 rfl
      have na := un_none.mp d2
      have eU : upd (un Fj Fo) a (.tup xs) = un Fj (upd Fo a (.tup xs)) := un_upd na.1
      have hH : H a = some (.tup xs) := h3 _ _ (same_un1 _ _ upd_same)
      rw [eU] at q3
      have dFr : Dj Fj Fr := fun b o h => q3 b o (by unfold un; rw [h])
      have djO : Dj Fj (upd Fo a (.tup xs)) := fun b o h => by
        by_cases cb : b = a
        · subst cb; rw [na.1] at h; cases h
        · rw [upd_ne cb]; exact z3 b o h
      have dOr : Dj (upd Fo a (.tup xs)) Fr := fun b o h => q3 b o (same_un2 djO _ _ h)
      have len2 : xs.length = 2 := by
        have := d1.length
        simpa using this.symm
      refine ⟨w, Fj, un (upd Fo a (.tup xs)) Fr, fun Q qq => q1 _ (hk _ _ _ h0 ⟨a, xs, 0, w, rfl, rfl, .of hH, ?_, qq⟩), z2, un_dj djO dFr, by rw [eU, un_assoc], fun G' c' x' Fj' sg e' k1 k2 => ?_⟩
      · unfold atI ixN
        rw [if_pos (Int.le_refl 0), if_pos (by omega)]
        exact z1
      · obtain ⟨k3, k4⟩ := dj_un k2
        obtain ⟨k5, k6⟩ := dj_upd k3
        have n1 := z4 G' (enc c') Fj' sg k1 k5
        have n2 : Dn p G' (enc (c', q.2)) (.ref a) (un Fj' (upd Fo a (.tup xs))) := .inr ⟨ni (c', q.2), a, xs, un Fj' Fo, rfl, n1, un_none.mpr ⟨k6, na.2⟩, (un_upd k6).symm⟩
        have n3 := q4 _ _ _ _ sg (show put (c', q.2) = some x' from e') n2 (fun b o h => by
          rcases un_some h with h | h
          · exact k4 b o h
          · exact dOr b o h)
        rw [un_assoc] at n3
        exact n3
/-- the place of a field of an object of two fields: the first, the second -/
theorem lens_f0 {α β γ : Type} [Enc α] [Enc β] [Enc γ] {te : TE} {i : Nat} {x : α} {g : Option β} {put : β → Option α} {get : β → Option γ} {rep : β → γ → Option β} {f0 : Str} (L : Lens p env te i x g put)
    (hb : ∀ b c, get b = some c → ∃ cl f1 d1, enc b = .ins cl [(f0, enc c), (f1, d1)] ∧ Cls p.K (p.cl cl) ∧ NoAttr p.K (p.cl cl) f0 ∧ ∀ c' b', rep b c' = some b' → enc b' = .ins cl [(f0, enc c'), (f1, d1)]) :
    Lens p env (tFld p.K te f0) i x (g.bind get) (fun c => g.bind fun b => (rep b c).bind put) where
  run := fun {σ G H F v c} h0 h1 h2 h3 e => by
    obtain ⟨b, e1, e2⟩ := bind_some e
    obtain ⟨cl, f1, dd, eb, c1, c2, c3⟩ := hb b c e2
    obtain ⟨u, Fe, Fr, q1, q2, q3, rfl, q4⟩ := L.run h0 h1 h2 h3 e1
    rw [eb] at q2
    obtain ⟨a, dx, xs, F', rfl, ⟨w, vs, Fj, Fo, rfl, z2, z5, z3, rfl⟩, d2, rfl⟩ := q2
    have na := un_none.mp d2
    have eU : upd (un Fj Fo) a (.ins (p.cl cl) dx ((f0, w) :: vs)) = un Fj (upd Fo a (.ins (p.cl cl) dx ((f0, w) :: vs))) := un_upd na.1
    have hH : H a = some (.ins (p.cl cl) dx ((f0, w) :: vs)) := h3 _ _ (same_un1 _ _ upd_same)
    rw [eU] at q3
    have dFr : Dj Fj Fr := fun b o h => q3 b o (by unfold un; rw [h])
    have djO : Dj Fj (upd Fo a (.ins (p.cl cl) dx ((f0, w) :: vs))) := fun b o h => by
      by_cases cb : b = a
      · subst cb; rw [na.1] at h; cases h
      · rw [upd_ne cb]; exact z3 b o h
    have dOr : Dj (upd Fo a (.ins (p.cl cl) dx ((f0, w) :: vs))) Fr := fun b o h => q3 b o (same_un2 djO _ _ h)
    refine ⟨w, Fj, un (upd Fo a (.ins (p.cl cl) dx ((f0, w) :: vs))) Fr, fun Q qq => q1 _ ⟨a, _, dx, _, w, rfl, hH, c1, c2, lk0, qq⟩, z2, un_dj djO dFr, by rw [eU, un_assoc], fun G' c' x' Fj' sg e' k1 k2 => ?_⟩
    rw [e1] at e'
    obtain ⟨b', s1, s2⟩ := bind_some (show (rep b c').bind put = some x' from e')
    obtain ⟨k3, k4⟩ := dj_un k2
    obtain ⟨k5, k6⟩ := dj_upd k3
    have n2 : Dn p G' (enc b') (.ref a) (un Fj' (upd Fo a (.ins (p.cl cl) dx ((f0, w) :: vs)))) := by
      rw [c3 c' b' s1]
      exact ⟨a, dx, _, un Fj' Fo, rfl, ⟨w, vs, Fj', Fo, rfl, k1, DnF.mono sg _ z5, k5, rfl⟩, un_none.mpr ⟨k6, na.2⟩, (un_upd k6).symm⟩
    have n3 := q4 _ _ _ _ sg s2 n2 (fun b o h => by
      rcases un_some h with h | h
      · exact k4 b o h
      · exact dOr b o h)
    rw [un_assoc] at n3
    exact n3
theorem lens_f1 {α β γ : Type} [Enc α] [Enc β] [Enc γ] {te : TE} {i : Nat} {x : α} {g : Option β} {put : β → Option α} {get : β → Option γ} {rep : β → γ → Option β} {f0 f1 : Str} (L : Lens p env te i x g put) (hne : (f1 == f0) = false)
    (hb : ∀ b c, get b = some c → ∃ cl d0, enc b = .ins cl [(f0, d0), (f1, enc c)] ∧ Cls p.K (p.cl cl) ∧ NoAttr p.K (p.cl cl) f1 ∧ ∀ c' b', rep b c' = some b' → enc b' = .ins cl [(f0, d0), (f1, enc c')]) :
    Lens p env (tFld p.K te f1) i x (g.bind get) (fun c => g.bind fun b => (rep b c).bind put) where
  run := fun {σ G H F v c} h0 h1 h2 h3 e => by
    obtain ⟨b, e1, e2⟩ := bind_some e
    obtain ⟨cl, dd, eb, c1, c2, c3⟩ := hb b c e2
    obtain ⟨u, Fe, Fr, q1, q2, q3, rfl, q4⟩ := L.run h0 h1 h2 h3 e1
    rw [eb] at q2
    obtain ⟨a, dx, xs, F', rfl, ⟨w0, vs, F0, F2, rfl, z0, ⟨w, vs2, Fj, Fn, rfl, z2, ⟨rfl, rfl⟩, _, rfl⟩, z3, rfl⟩, d2, rfl⟩ := q2
    rw [un_nil] at *
    have na := un_none.mp d2
    have sw : un F0 Fj = un Fj F0 := un_comm z3
    rw [sw] at q3 h3 ⊢
    have eU : upd (un Fj F0) a (.ins (p.cl cl) dx [(f0, w0), (f1, w)]) = un Fj (upd F0 a (.ins (p.cl cl) dx [(f0, w0), (f1, w)])) := un_upd na.2
    have hH : H a = some (.ins (p.cl cl) dx [(f0, w0), (f1, w)]) := h3 _ _ (same_un1 _ _ upd_same)
    rw [eU] at q3
    have dFr : Dj Fj Fr := fun b o h => q3 b o (by unfold un; rw [h])
    have djO : Dj Fj (upd F0 a (.ins (p.cl cl) dx [(f0, w0), (f1, w)])) := fun b o h => by
      by_cases cb : b = a
      · subst cb; rw [na.2] at h; cases h
      · rw [upd_ne cb]; exact z3.symm b o h
    have dOr : Dj (upd F0 a (.ins (p.cl cl) dx [(f0, w0), (f1, w)])) Fr := fun b o h => q3 b o (same_un2 djO _ _ h)
    refine ⟨w, Fj, un (upd F0 a (.ins (p.cl cl) dx [(f0, w0), (f1, w)])) Fr, fun Q qq => q1 _ ⟨a, _, dx, _, w, rfl, hH, c1, c2, (lk1 hne).trans lk0, qq⟩, z2, un_dj djO dFr, by rw [eU, un_assoc], fun G' c' x' Fj' sg e' k1 k2 => ?_⟩
    rw [e1] at e'
    obtain ⟨b', s1, s2⟩ := bind_some (show (rep b c').bind put = some x' from e')
    obtain ⟨k3, k4⟩ := dj_un k2
    obtain ⟨k5, k6⟩ := dj_upd k3
    have n2 : Dn p G' (enc b') (.ref a) (un Fj' (upd F0 a (.ins (p.cl cl) dx [(f0, w0), (f1, w)]))) := by
      rw [c3 c' b' s1]
      exact ⟨a, dx, _, un F0 Fj', rfl, ⟨w0, _, F0, Fj', rfl, Dn.mono sg _ z0, ⟨w, [], Fj', nil, rfl, k1, ⟨rfl, rfl⟩, fun a o _ => rfl, (un_nil _).symm⟩, k5.symm, rfl⟩, un_none.mpr ⟨na.1, k6⟩, by rw [un_comm k5.symm, un_upd k6]⟩
    have n3 := q4 _ _ _ _ sg s2 n2 (fun b o h => by
      rcases un_some h with h | h
      · exact k4 b o h
      · exact dOr b o h)
    rw [un_assoc] at n3
    exact n3
end PU

set_option Elab.async false
set_option maxRecDepth 100000
set_option linter.all false
/-! PU17: lists written out, new through and through; pop(0), an item set, at a place; reverse, pop by K. -/
namespace PU
open PySem L2
open Enc
section
variable {p : Pm} {env : List Sl} {ta te tr tk : TE} {w : D → Rs} [Dl w] {α β γ ρ : Type} [Enc α] [Enc β] [Enc γ] {tz : TS} {Po : Post ρ} {i : Nat} {x : α}
/-- items of one sort, new through and through -/
def EnT (p : Pm) (n : Nat) (ta : TA) (env : List Sl) (m : Option (List α)) : Prop := EnA p n ta env (m.bind fun l => some (l.map enc))
theorem ent_nil : EnT p 0 tNil env (some ([] : List α)) := ena_nil
theorem ent_cons {n : Nat} {tr : TA} {ma : Option α} {ms : Option (List α)} (h : EvN p ta env ma) (hr : EnT p n tr env ms) : EnT p (n + 1) (tCons ta tr) env (ma.bind fun x => ms.bind fun l => some (x :: l)) := fun z e => by
  obtain ⟨l, e1, e⟩ := bind_some e
  cases e
  obtain ⟨y, e2, e3⟩ := bind_some e1
  obtain ⟨l2, e4, e5⟩ := bind_some e3
  cases e5
  exact ena_cons h hr _ (by rw [e2, e4]; rfl)
theorem en_lstT {n : Nat} {ta : TA} {m : Option (List α)} (h : EnT p n ta env m) (hn : n ≤ 100000 := by decide) : EvN p (tLst ta) env m := fun z e => by
  refine en_lst (m := m.bind fun l => some (l.map enc)) (f := fun ds => m) h (fun ds xs e1 e2 => ?_) hn z ?_
  · rw [e2] at e1; cases e1; rfl
  · rw [e]; rfl
theorem k_pop0L {g : Option (List γ)} {put : List γ → Option α} {rest : α → Option ρ} (h : env[i]? = some (.rs (w (enc x)))) (L : Lens p env te i x g put) (k : ∀ x', Bk p tz (env.set i (.rs (w (enc x')))) (rest x') Po) :
    Bk p (tSeq (tDrop (tBM p.K "list" rPopAt te (tCons (tC (.int 0)) tNil))) tz) env (g.bind fun l => if l = [] then none else (put (l.drop 1)).bind rest) Po := fun r e G0 H0 σ G H st D q => by
  obtain ⟨l, e1, f1⟩ := bind_some e
  split at f1
  · cases f1
  · rename_i hne
    obtain ⟨x', e4, f2⟩ := bind_some f1
    obtain ⟨a, xs, F', q1, q2, q3, q4, q5, q6⟩ := st.lensW h L e1
    have ll := DnA.length q3
    rw [List.length_map] at ll
    cases l with
    | nil => exact absurd rfl hne
    | cons y l =>
      obtain ⟨F2, k1, k2⟩ := DnA.drop1 (show DnA p G (enc y :: l.map enc) xs F' from q3)
      have lp : 0 < xs.length := by simp at ll; omega
      refine q1 _ ⟨.inl ⟨rfl, _, .of q2⟩, a, xs, 0, 0, xs[0], rfl, rfl, q2, by decide, by decide, ?_, List.getElem?_eq_getElem lp, ?_⟩
      · exact (ixN_seq (n := xs.length) (i := 0) (j := 0) (by unfold ixN; rw [if_pos (Int.le_refl 0), if_pos (by omega)]; rfl)).1
      · have es : xs.eraseIdx 0 = xs.drop 1 := by cases xs <;> rfl
        rw [es]
        exact k x' r f2 G0 H0 σ G _ (q6 G H nil l x' _ F2 (.refl st.gr.s) (fun b o z => by cases z) (fun b o z => by cases z) e4 k1 fun b o z => .inl (k2 b o z)) D (Po.mono (.refl _) q)
theorem k_setL {k0 : Int} {g : Option (List γ)} {put : List γ → Option α} {me : Option γ} {rest : α → Option ρ} (h : env[i]? = some (.rs (w (enc x)))) (he : Ev p false ta env me) [Scal γ] (L : Lens p env te i x g put) (hk : TK env tk k0) (k : ∀ x', Bk p tz (env.set i (.rs (w (enc x')))) (rest x') Po) :
    Bk p (tSeq (tAsg ta (gSub te tk rSetL)) tz) env (me.bind fun y => g.bind fun l => (seti? l k0 y).bind fun l' => (put l').bind rest) Po := fun r e G0 H0 σ G H st Dd q => by
  obtain ⟨y, e2, f1⟩ := bind_some e
  obtain ⟨l, e1, f2⟩ := bind_some f1
  obtain ⟨l', e3, f3⟩ := bind_some f2
  obtain ⟨x', e4, f4⟩ := bind_some f3
  refine he y e2 G0 H0 σ G H st _ fun v G1 H1 g1 r1 => ?_
  have st1 := st.step g1
  obtain ⟨a, xs, F', q1, q2, q3, q4, q5, q6⟩ := st1.lensW h L e1
  unfold seti? at e3
  cases hj : ixN l.length k0 with
  | none => rw [hj] at e3; cases e3
  | some j =>
    rw [hj] at e3
    cases e3
    have ll := DnA.length q3
    rw [List.length_map] at ll
    have hlt := (ixN_seq hj).2.1
    obtain ⟨w, Fj, Fo, z1, z2, z3, rfl, z4⟩ := DnA.split (j := j) (d := enc l[j]) q3 (by rw [List.getElem?_map, List.getElem?_eq_getElem hlt]; rfl)
    have nw : ∃ F2, DnA p G1 ((l.set j y).map enc) (xs.set j v) F2 ∧ ∀ b o, F2 b = some o → un Fj Fo b = some o := by
      have : ∀ (ds : List D) (xs : List V) (F : Hp) (j : Nat), DnA p G1 ds xs F → ∃ F2, DnA p G1 (ds.set j (enc y)) (xs.set j v) F2 ∧ ∀ b o, F2 b = some o → F b = some o := by
        intro ds
        induction ds with
        | nil =>
          intro xs F j hh
          obtain ⟨rfl, rfl⟩ := hh
          exact ⟨nil, ⟨rfl, rfl⟩, fun b o z => z⟩
        | cons d ds ih =>
          intro xs F j hh
          obtain ⟨v0, vs, F1, F2, rfl, h1, h2, h3, rfl⟩ := hh
          cases j with
          | zero => exact ⟨F2, ⟨v, vs, nil, F2, rfl, Scal.dn r1, h2, fun a o z => (by cases z), (nil_un F2).symm⟩, fun b o z => same_un2 h3 _ _ z⟩
          | succ j =>
            obtain ⟨F3, k1, k2⟩ := ih vs F2 j h2
            refine ⟨un F1 F3, ⟨v0, vs.set j v, F1, F3, rfl, h1, k1, fun a o z => ?_, rfl⟩, fun b o z => ?_⟩
            · cases qq : F3 a with
              | none => rfl
              | some u =>
                have h5 := k2 a u qq
                rw [h3 a o z] at h5; cases h5
            · rcases un_some z with z | z
              · exact same_un1 _ _ z
              · exact same_un2 h3 _ _ (k2 b o z)
      rw [List.map_set]
      exact this _ _ _ j q3
    obtain ⟨F2, n1, n2⟩ := nw
    refine q1 _ (hk _ _ _ st1.ints ⟨a, xs, k0, j, rfl, rfl, q2, by rw [← ll]; exact hj, ?_⟩)
    exact k x' r f4 G0 H0 σ G1 _ (q6 G1 H1 nil _ x' _ F2 (.refl st1.gr.s) (fun b o z => by cases z) (fun b o z => by cases z) e4 n1 fun b o z => .inl (n2 b o z)) Dd (Po.mono g1.g q)
end
section
variable {X : Cx} {e : Expr} {to : TE}
theorem xe_reverse (K) {apos cpos : Pos} {o : Expr} (ho : PE X o to) (hbase : attributeBase o "reverse" X.env (eval o X.env) = eval o X.env := by rfl) (hline : (apos.endLine == cpos.line) = true := by rfl) (hK : X.K = K := by rfl) :
    PE X (.Call (.Attribute o "reverse" apos) [] [] cpos) (tBM0 K "list" rReverse to) := by
  subst hK
  exact pe_bm0 PySem.F.plainAttrs_list PySem.F.slot_list_reverse PySem.F.type_list_reverse mt_reverse ho hbase hline
theorem xe_pop0 (K) {apos cpos : Pos} {o : Expr} (ho : PE X o to) (hbase : attributeBase o "pop" X.env (eval o X.env) = eval o X.env := by rfl) (hline : (apos.endLine == cpos.line) = true := by rfl) (hK : X.K = K := by rfl) :
    PE X (.Call (.Attribute o "pop" apos) [] [] cpos) (tBM0 K "list" rPop to) := by
  subst hK
  exact pe_bm0 PySem.F.plainAttrs_list PySem.F.slot_list_pop PySem.F.type_list_pop mt_pop ho hbase hline
end
end PU

set_option Elab.async false
set_option maxRecDepth 100000
set_option linter.all false
/-! PU18: tuples of three and four; places of the fields of an answer. -/
namespace PU
open PySem L2
open Enc
structure Tri (α β γ : Type) where
  a : α
  b : β
  c : γ
instance {α β γ : Type} [Enc α] [Enc β] [Enc γ] : Enc (Tri α β γ) := ⟨fun x => .tup [enc x.a, enc x.b, enc x.c]⟩
structure Quad (α β γ δ : Type) where
  a : α
  b : β
  c : γ
  d : δ
instance {α β γ δ : Type} [Enc α] [Enc β] [Enc γ] [Enc δ] : Enc (Quad α β γ δ) := ⟨fun x => .tup [enc x.a, enc x.b, enc x.c, enc x.d]⟩
section
variable {p : Pm} {env : List Sl} {ta tb tc td : TE} {α β γ δ : Type} [Enc α] [Enc β] [Enc γ] [Enc δ]
theorem ev_tup3 {ma : Option α} {mb : Option β} {mc : Option γ} (ha : Ev p false ta env ma) (hb : Ev p false tb env mb) (hc : Ev p false tc env mc) : Ev p false (tTup (tCons ta (tCons tb (tCons tc tNil)))) env (ma.bind fun x => mb.bind fun y => mc.bind fun z => some (Tri.mk x y z)) := fun z e G0 H0 σ G H s Q k => by
  obtain ⟨x, e1, f1⟩ := bind_some e
  obtain ⟨y, e2, f2⟩ := bind_some f1
  obtain ⟨y3, e3, f3⟩ := bind_some f2
  cases f3
  refine ha x e1 G0 H0 σ G H s _ fun v G1 H1 g1 r1 => hb y e2 G0 H0 σ G1 H1 (s.step g1) _ fun w G2 H2 g2 r2 => hc y3 e3 G0 H0 σ G2 H2 ((s.step g1).step g2) _ fun u G3 H3 g3 r3 => ⟨by show 3 ≤ sizeLine; decide, fun l hl => ?_⟩
  have n2 := same_new (o := .tup [v, w, u]) (g3.s.free hl)
  exact k _ _ _ (((g1.trans g2).trans g3).trans (.new g3.s hl)) ⟨l, [v, w, u], rfl, upd_same, .cons (Rp.mono ((g2.g.trans g3.g).trans n2) _ r1) (.cons (Rp.mono (g3.g.trans n2) _ r2) (.cons (Rp.mono n2 _ r3) .nil))⟩
theorem ev_tup4 {ma : Option α} {mb : Option β} {mc : Option γ} {md : Option δ} (ha : Ev p false ta env ma) (hb : Ev p false tb env mb) (hc : Ev p false tc env mc) (hd : Ev p false td env md) : Ev p false (tTup (tCons ta (tCons tb (tCons tc (tCons td tNil))))) env (ma.bind fun x => mb.bind fun y => mc.bind fun z => md.bind fun w => some (Quad.mk x y z w)) := fun z e G0 H0 σ G H s Q k => by
  obtain ⟨x, e1, f1⟩ := bind_some e
  obtain ⟨y, e2, f2⟩ := bind_some f1
  obtain ⟨y3, e3, f3⟩ := bind_some f2
  obtain ⟨y4, e4, f4⟩ := bind_some f3
  cases f4
  refine ha x e1 G0 H0 σ G H s _ fun v G1 H1 g1 r1 => hb y e2 G0 H0 σ G1 H1 (s.step g1) _ fun w G2 H2 g2 r2 => hc y3 e3 G0 H0 σ G2 H2 ((s.step g1).step g2) _ fun u G3 H3 g3 r3 => hd y4 e4 G0 H0 σ G3 H3 (((s.step g1).step g2).step g3) _ fun t G4 H4 g4 r4 => ⟨by show 4 ≤ sizeLine; decide, fun l hl => ?_⟩
  have n2 := same_new (o := .tup [v, w, u, t]) (g4.s.free hl)
  exact k _ _ _ ((((g1.trans g2).trans g3).trans g4).trans (.new g4.s hl)) ⟨l, [v, w, u, t], rfl, upd_same, .cons (Rp.mono (((g2.g.trans g3.g).trans g4.g).trans n2) _ r1) (.cons (Rp.mono ((g3.g.trans g4.g).trans n2) _ r2) (.cons (Rp.mono (g4.g.trans n2) _ r3) (.cons (Rp.mono n2 _ r4) .nil)))⟩
end
/-! ### the fields of an answer as places -/
def Ans.setStay? : Ans → List Int → Option Ans
  | .least _ r, s => some (.least s r)
  | .round _ r, s => some (.round s r)
  | _, _ => none
def Ans.setRows? : Ans → List (List Int × Int) → Option Ans
  | .least s _, r => some (.least s r)
  | _, _ => none
def Ans.setPapers? : Ans → List (List (List Int × Int)) → Option Ans
  | .round s _, r => some (.round s r)
  | _, _ => none
section
variable {p : Pm} {env : List Sl} {te : TE} {i : Nat} {α : Type} [Enc α] {x : α} {g : Option Ans} {put : Ans → Option α}
theorem lens_stayL (L : Lens p env te i x g put) (hc : Cls p.K (p.cl 0)) (hn : NoAttr p.K (p.cl 0) "stay") : Lens p env (tFld p.K te "stay") i x (g.bind Ans.stayL?) (fun c => g.bind fun b => (Ans.setStay? b c).bind put) :=
  lens_f0 L fun b c e => by
    cases b <;> cases e
    exact ⟨0, "rows", _, rfl, hc, hn, fun c' b' e' => by cases e'; rfl⟩
theorem lens_stay (L : Lens p env te i x g put) (hc : Cls p.K (p.cl 0)) (hn : NoAttr p.K (p.cl 0) "stay") (hc5 : Cls p.K (p.cl 5)) (hn5 : NoAttr p.K (p.cl 5) "stay") : Lens p env (tFld p.K te "stay") i x (g.bind Ans.stay?) (fun c => g.bind fun b => (Ans.setStay? b c).bind put) :=
  lens_f0 L fun b c e => by
    cases b <;> cases e
    · exact ⟨0, "rows", _, rfl, hc, hn, fun c' b' e' => by cases e'; rfl⟩
    · exact ⟨5, "papers", _, rfl, hc5, hn5, fun c' b' e' => by cases e'; rfl⟩
theorem lens_rows (L : Lens p env te i x g put) (hc : Cls p.K (p.cl 0)) (hn : NoAttr p.K (p.cl 0) "rows") : Lens p env (tFld p.K te "rows") i x (g.bind Ans.rows?) (fun c => g.bind fun b => (Ans.setRows? b c).bind put) :=
  lens_f1 (f0 := "stay") L (by decide +kernel) fun b c e => by
    cases b <;> cases e
    exact ⟨0, _, rfl, hc, hn, fun c' b' e' => by cases e'; rfl⟩
theorem lens_papers (L : Lens p env te i x g put) (hc : Cls p.K (p.cl 5)) (hn : NoAttr p.K (p.cl 5) "papers") : Lens p env (tFld p.K te "papers") i x (g.bind Ans.papers?) (fun c => g.bind fun b => (Ans.setPapers? b c).bind put) :=
  lens_f1 (f0 := "stay") L (by decide +kernel) fun b c e => by
    cases b <;> cases e
    exact ⟨5, _, rfl, hc, hn, fun c' b' e' => by cases e'; rfl⟩
end
end PU

set_option Elab.async false
set_option maxRecDepth 100000
set_option linter.all false
/-! PU19: a list of four unlike parts. -/
namespace PU
open PySem L2
open Enc
structure R4 (α β γ δ : Type) where
  a : α
  b : β
  c : γ
  d : δ
deriving DecidableEq
instance {α β γ δ : Type} [Enc α] [Enc β] [Enc γ] [Enc δ] : Enc (R4 α β γ δ) := ⟨fun x => .lst [enc x.a, enc x.b, enc x.c, enc x.d]⟩
section
variable {p : Pm} {env : List Sl} {ta tb tc td te tk : TE} {α β γ δ ε : Type} [Enc α] [Enc β] [Enc γ] [Enc δ] [Enc ε]
theorem en_r4 {ma : Option α} {mb : Option β} {mc : Option γ} {md : Option δ} (ha : EvN p ta env ma) (hb : EvN p tb env mb) (hc : EvN p tc env mc) (hd : EvN p td env md) : EvN p (tLst (tCons ta (tCons tb (tCons tc (tCons td tNil))))) env (ma.bind fun x => mb.bind fun y => mc.bind fun z => md.bind fun w => some (R4.mk x y z w)) := fun z e G0 H0 σ G H s Q k => by
  obtain ⟨x, e1, f1⟩ := bind_some e
  obtain ⟨y, e2, f2⟩ := bind_some f1
  obtain ⟨y3, e3, f3⟩ := bind_some f2
  obtain ⟨y4, e4, f4⟩ := bind_some f3
  cases f4
  refine ena_cons ha (ena_cons hb (ena_cons hc (ena_cons hd ena_nil))) [enc x, enc y, enc y3, enc y4] (by rw [e1, e2, e3, e4]; rfl) G0 H0 σ G H s _ fun vs G1 H1 N g1 s1 n1 r1 hl => ⟨by rw [← r1.length, hl]; show 4 ≤ sizeLine; decide, fun q hq => ?_⟩
  obtain ⟨a1, a2, a3, a4⟩ := lay_new (o := .lst vs) g1 s1 n1 hq
  exact k (.ref q) G1 _ (upd N q (.lst vs)) a1 a2 a3 ⟨q, vs, N, rfl, r1, a4, rfl⟩
theorem ev_r4 {ma : Option α} {mb : Option β} {mc : Option γ} {md : Option δ} (ha : Ev p false ta env ma) (hb : Ev p false tb env mb) (hc : Ev p false tc env mc) (hd : Ev p false td env md) : Ev p false (tLst (tCons ta (tCons tb (tCons tc (tCons td tNil))))) env (ma.bind fun x => mb.bind fun y => mc.bind fun z => md.bind fun w => some (R4.mk x y z w)) := fun z e G0 H0 σ G H s Q k => by
  obtain ⟨x, e1, f1⟩ := bind_some e
  obtain ⟨y, e2, f2⟩ := bind_some f1
  obtain ⟨y3, e3, f3⟩ := bind_some f2
  obtain ⟨y4, e4, f4⟩ := bind_some f3
  cases f4
  refine ha x e1 G0 H0 σ G H s _ fun v G1 H1 g1 r1 => hb y e2 G0 H0 σ G1 H1 (s.step g1) _ fun w G2 H2 g2 r2 => hc y3 e3 G0 H0 σ G2 H2 ((s.step g1).step g2) _ fun u G3 H3 g3 r3 => hd y4 e4 G0 H0 σ G3 H3 (((s.step g1).step g2).step g3) _ fun t G4 H4 g4 r4 => ⟨by show 4 ≤ sizeLine; decide, fun l hl => ?_⟩
  have n2 := same_new (o := .lst [v, w, u, t]) (g4.s.free hl)
  exact k _ _ _ ((((g1.trans g2).trans g3).trans g4).trans (.new g4.s hl)) ⟨l, [v, w, u, t], rfl, upd_same, .cons (Rp.mono (((g2.g.trans g3.g).trans g4.g).trans n2) _ r1) (.cons (Rp.mono ((g3.g.trans g4.g).trans n2) _ r2) (.cons (Rp.mono (g4.g.trans n2) _ r3) (.cons (Rp.mono n2 _ r4) .nil)))⟩
/-- x[k], the list's parts unlike -/
theorem ev_at {k : Int} {j : Nat} {get : β → γ} {mb : Option β} (h : Ev p false tb env mb) (hk : TK env tk k) (hb : ∀ b : β, ∃ ds, enc b = .lst ds ∧ ixN ds.length k = some j ∧ ds[j]? = some (enc (get b))) : Ev p false (tOp (rIxL p.K) tb tk) env (mb.bind fun b => some (get b)) := fun z e G0 H0 σ G H s Q kk => by
  obtain ⟨b, e1, f1⟩ := bind_some e
  cases f1
  obtain ⟨ds, eb, h1, h2⟩ := hb b
  refine h b e1 G0 H0 σ G H s _ fun v G1 H1 g1 r1 => hk _ _ _ (s.step g1).ints ?_
  rw [eb] at r1
  obtain ⟨a, vs, rfl, h3, h4⟩ := r1
  obtain ⟨w, h5, h6⟩ := h4.get h2
  refine ⟨a, vs, k, w, rfl, rfl, .of (g1.s _ _ h3), ?_, kk w G1 H1 g1 h6⟩
  unfold atI
  rw [← h4.length, h1]
  exact h5
theorem lens_at {i : Nat} {x : α} {k : Int} {j : Nat} {g : Option β} {put : β → Option α} {get : β → γ} {rep : β → γ → β} (L : Lens p env te i x g put) (hk : TK env tk k)
    (hb : ∀ b : β, ∃ ds, enc b = .lst ds ∧ ixN ds.length k = some j ∧ ds[j]? = some (enc (get b)) ∧ ∀ c, enc (rep b c) = .lst (ds.set j (enc c))) : Lens p env (tOp (rIxL p.K) te tk) i x (g.map get) (fun c => g.bind fun b => put (rep b c)) where
  run := fun {σ G H F v c} h0 h1 h2 h3 e => by
    cases hg : g with
    | none => rw [hg] at e; cases e
    | some b =>
      rw [hg] at e
      cases e
      obtain ⟨ds, eb, hj, hd, hr⟩ := hb b
      obtain ⟨u, Fe, Fr, q1, q2, q3, rfl, q4⟩ := L.run h0 h1 h2 h3 hg
      rw [eb] at q2
      obtain ⟨a, xs, F', rfl, d1, d2, rfl⟩ := q2
      have hl := DnA.length d1
      obtain ⟨w, Fj, Fo, z1, z2, z3, rfl, z4⟩ := DnA.split (j := j) d1 hd
      have na := un_none.mp d2
      have eU : upd (un Fj Fo) a (.lst xs) = un Fj (upd Fo a (.lst xs)) := un_upd na.1
      have hH : H a = some (.lst xs) := h3 _ _ (same_un1 _ _ upd_same)
      rw [eU] at q3
      have dFr : Dj Fj Fr := fun b o h => q3 b o (by unfold un; rw [h])
      have djO : Dj Fj (upd Fo a (.lst xs)) := fun b o h => by
        by_cases cb : b = a
        · subst cb; rw [na.1] at h; cases h
        · rw [upd_ne cb]; exact z3 b o h
      have dOr : Dj (upd Fo a (.lst xs)) Fr := fun b o h => q3 b o (same_un2 djO _ _ h)
      refine ⟨w, Fj, un (upd Fo a (.lst xs)) Fr, fun Q qq => q1 _ (hk _ _ _ h0 ⟨a, xs, k, w, rfl, rfl, .of hH, ?_, qq⟩), z2, un_dj djO dFr, by rw [eU, un_assoc], fun G' c' x' Fj' sg e' k1 k2 => ?_⟩
      · unfold atI
        rw [← hl, hj]
        exact z1
      · obtain ⟨k3, k4⟩ := dj_un k2
        obtain ⟨k5, k6⟩ := dj_upd k3
        have n1 := z4 G' (enc c') Fj' sg k1 k5
        have n2 : Dn p G' (enc (rep b c')) (.ref a) (un Fj' (upd Fo a (.lst xs))) := by
          rw [hr c']
          exact ⟨a, xs, un Fj' Fo, rfl, n1, un_none.mpr ⟨k6, na.2⟩, (un_upd k6).symm⟩
        have n3 := q4 _ _ _ _ sg (show put (rep b c') = some x' from e') n2 (fun b o h => by
          rcases un_some h with h | h
          · exact k4 b o h
          · exact dOr b o h)
        rw [un_assoc] at n3
        exact n3
end
end PU

set_option Elab.async false
set_option maxRecDepth 100000
set_option linter.all false
/-! PU20: defs without arguments; equality of lists of unlike parts, of what may be None. -/
namespace PU
open PySem L2
open Enc
theorem pe_cal0 {X : Cx} {x : Str} {k : Nat} {ps : List Str} {sp : Sp} {p pos : Pos} (c : Cal X.prog X.w X.K X.mg X.base x k ps sp) (hr : Room k X.A) (hg : Gl X x) (hdb : (x == ("__debug__" : Str)) = false := by decide) :
    PE X (.Call (.Name x p) [] [] pos) (tCall sp [] E0 tNil) := by
  obtain ⟨f, fd, F, hm, hk, hb⟩ := c.ex
  exact pe_call0 F hr hg hm hk hb .nil pass0 hdb
section
variable {p : Pm} {env : List Sl} {ta tb tc td te tk : TE} {α β γ δ : Type} [Enc α] [Enc β] [Enc γ] [Enc δ]
def sp0 (p : Pm) (nw : Bool) (f : Option γ) : Sp := spF p nw (fun _ : Unit => []) fun _ => f
theorem ev_call0 {nw : Bool} {f : Option γ} {E : XK} : Ev p nw (tCall (sp0 p nw f) [] E tNil) env f := fun z e G0 H0 σ G H s Q k =>
  ⟨G, (), z, s.gr.s, rfl, e, fun u G2 H2 g2 r2 => k u G2 H2 g2 r2⟩
def spD0 (p : Pm) (f : Option γ) : Sp := spD p (fun _ : Unit => []) fun _ => f
theorem en_call0 {f : Option γ} {E : XK} : EvN p (tCall (spD0 p f) [] E tNil) env f := fun z e G0 H0 σ G H s Q k =>
  ⟨G, (), z, s.gr.s, rfl, e, fun v G2 H2 N g2 sN nN r2 => k v G2 H2 N g2 sN nN r2⟩
instance [DecidableEq α] [EqOk α] [DecidableEq β] [EqOk β] [DecidableEq γ] [EqOk γ] [DecidableEq δ] [EqOk δ] : EqOk (R4 α β γ δ) where
  pd := fun x => .list [EqOk.pd x.a, EqOk.pd x.b, EqOk.pd x.c, EqOk.pd x.d]
  dp := fun x v h => by
    obtain ⟨a, vs, rfl, h1, v1, vs1, rfl, h2, v2, vs2, rfl, h3, v3, vs3, rfl, h4, v4, vs4, rfl, h5, rfl⟩ := h
    exact .lst (.of h1) (.cons (EqOk.dp x.a v1 h2) (.cons (EqOk.dp x.b v2 h3) (.cons (EqOk.dp x.c v3 h4) (.cons (EqOk.dp x.d v4 h5) .nil))))
  lay := fun x => by simp only [PyData.canLay0, PyData.canLayAll0, EqOk.lay, Bool.and_self]
  dep := max (max (EqOk.dep α) (EqOk.dep β)) (max (EqOk.dep γ) (EqOk.dep δ)) + 1
  hdep := fun x => by
    simp only [PyData.depth, PyData.depthAll]
    have h1 := EqOk.hdep x.a
    have h2 := EqOk.hdep x.b
    have h3 := EqOk.hdep x.c
    have h4 := EqOk.hdep x.d
    omega
  eqv := fun x y => by
    simp only [PyData.eqv, PyData.eqvAll, EqOk.eqv, Bool.and_true]
    obtain ⟨a, b, c, d⟩ := x
    obtain ⟨a', b', c', d'⟩ := y
    by_cases h1 : a = a' <;> by_cases h2 : b = b' <;> by_cases h3 : c = c' <;> by_cases h4 : d = d' <;> simp [h1, h2, h3, h4]
/-! ### a list of two unlike parts -/
structure Du (α β : Type) where
  a : α
  b : β
deriving DecidableEq
instance : Enc (Du α β) := ⟨fun x => .lst [enc x.a, enc x.b]⟩
instance [DecidableEq α] [EqOk α] [DecidableEq β] [EqOk β] : EqOk (Du α β) where
  pd := fun x => .list [EqOk.pd x.a, EqOk.pd x.b]
  dp := fun x v h => by
    obtain ⟨a, vs, rfl, h1, v1, vs1, rfl, h2, v2, vs2, rfl, h3, rfl⟩ := h
    exact .lst (.of h1) (.cons (EqOk.dp x.a v1 h2) (.cons (EqOk.dp x.b v2 h3) .nil))
  lay := fun x => by simp only [PyData.canLay0, PyData.canLayAll0, EqOk.lay, Bool.and_self]
  dep := max (EqOk.dep α) (EqOk.dep β) + 1
  hdep := fun x => by
    simp only [PyData.depth, PyData.depthAll]
    have h1 := EqOk.hdep x.a
    have h2 := EqOk.hdep x.b
    omega
  eqv := fun x y => by
    simp only [PyData.eqv, PyData.eqvAll, EqOk.eqv, Bool.and_true]
    obtain ⟨a, b⟩ := x
    obtain ⟨a', b'⟩ := y
    by_cases h1 : a = a' <;> by_cases h2 : b = b' <;> simp [h1, h2]
theorem en_du {ma : Option α} {mb : Option β} (ha : EvN p ta env ma) (hb : EvN p tb env mb) : EvN p (tLst (tCons ta (tCons tb tNil))) env (ma.bind fun x => mb.bind fun y => some (Du.mk x y)) := fun z e G0 H0 σ G H s Q k => by
  obtain ⟨x, e1, f1⟩ := bind_some e
  obtain ⟨y, e2, f2⟩ := bind_some f1
  cases f2
  refine ena_cons ha (ena_cons hb ena_nil) [enc x, enc y] (by rw [e1, e2]; rfl) G0 H0 σ G H s _ fun vs G1 H1 N g1 s1 n1 r1 hl => ⟨by rw [← r1.length, hl]; show 2 ≤ sizeLine; decide, fun q hq => ?_⟩
  obtain ⟨a1, a2, a3, a4⟩ := lay_new (o := .lst vs) g1 s1 n1 hq
  exact k (.ref q) G1 _ (upd N q (.lst vs)) a1 a2 a3 ⟨q, vs, N, rfl, r1, a4, rfl⟩
theorem ev_du {ma : Option α} {mb : Option β} (ha : Ev p false ta env ma) (hb : Ev p false tb env mb) : Ev p false (tLst (tCons ta (tCons tb tNil))) env (ma.bind fun x => mb.bind fun y => some (Du.mk x y)) := fun z e G0 H0 σ G H s Q k => by
  obtain ⟨x, e1, f1⟩ := bind_some e
  obtain ⟨y, e2, f2⟩ := bind_some f1
  cases f2
  refine ha x e1 G0 H0 σ G H s _ fun v G1 H1 g1 r1 => hb y e2 G0 H0 σ G1 H1 (s.step g1) _ fun w G2 H2 g2 r2 => ⟨by show 2 ≤ sizeLine; decide, fun l hl => ?_⟩
  have n2 := same_new (o := .lst [v, w]) (g2.s.free hl)
  exact k _ _ _ ((g1.trans g2).trans (.new g2.s hl)) ⟨l, [v, w], rfl, upd_same, .cons (Rp.mono (g2.g.trans n2) _ r1) (.cons (Rp.mono n2 _ r2) .nil)⟩
/-! ### what may be None -/
class NnE (α : Type) [Enc α] [DecidableEq α] [EqOk α] : Prop where
  l : ∀ x : α, PyData.eqv (EqOk.pd x) .none = false
  r : ∀ x : α, PyData.eqv .none (EqOk.pd x) = false
instance [DecidableEq α] [EqOk α] : NnE (List α) := ⟨fun x => by simp only [EqOk.pd, PyData.eqv], fun x => by simp only [EqOk.pd, PyData.eqv]⟩
instance [DecidableEq α] [EqOk α] [DecidableEq β] [EqOk β] : NnE (α × β) := ⟨fun x => by simp only [EqOk.pd, PyData.eqv], fun x => by simp only [EqOk.pd, PyData.eqv]⟩
instance [DecidableEq α] [EqOk α] [NnE α] : EqOk (Option α) where
  pd := fun o => match o with
    | none => .none
    | some x => EqOk.pd x
  dp := fun x v h => by
    cases x with
    | none => rw [show v = .non from h]; exact .non
    | some i => exact EqOk.dp i v h
  lay := fun x => by
    cases x with
    | none => simp only [PyData.canLay0]
    | some i => exact EqOk.lay i
  dep := EqOk.dep α
  hdep := fun x => by
    cases x with
    | none => simp only [PyData.depth]; exact Nat.zero_le _
    | some i => exact EqOk.hdep i
  eqv := fun x y => by
    cases x with
    | none =>
      cases y with
      | none => simp only [PyData.eqv]; simp
      | some j => rw [decide_eq_false (by simp)]; exact NnE.r j
    | some i =>
      cases y with
      | none => rw [decide_eq_false (by simp)]; exact NnE.l i
      | some j =>
        show PyData.eqv (EqOk.pd i) (EqOk.pd j) = _
        rw [EqOk.eqv]
        by_cases h : i = j <;> simp [h]
end
end PU

set_option Elab.async false
set_option maxRecDepth 100000
set_option linter.all false
/-! PU21: walks over a list of one's own; remove, clear, extend; own lists returned as new through and through. -/
namespace PU
open PySem L2
open Enc
section
variable {p : Pm} {env env' : List Sl} {σ : St} {G0 H0 G H : Hp}
theorem Sts.conv {i : Nat} {r r' : Rs} (s : Sts p G0 H0 env σ G H) (e : env[i]? = some (.rs r)) (c : ∀ v F, σ[i]? = some (some v) → r.R p G v F → r'.R p G v F) : Sts p G0 H0 (env.set i (.rs r')) σ G H := by
  obtain ⟨Fs, f⟩ := s.rs
  refine ⟨s.gr, by simp [s.len], fun j d q => ?_, Fs, fun j r1 q => ?_, fun j k r1 r2 a o n q1 q2 => ?_⟩
  · rcases set_get q with ⟨_, q, _⟩ | ⟨hj, q⟩
    · cases q
    · exact s.va j d q
  · rcases set_get q with ⟨rfl, q, _⟩ | ⟨hj, q⟩
    · cases q
      obtain ⟨v, a1, a2, a3, a4⟩ := f.wh i _ e
      exact ⟨v, a1, c v _ a1 a2, a3, a4⟩
    · exact f.wh j r1 q
  · have w1 : ∃ r0, env[j]? = some (.rs r0) := by
      rcases set_get q1 with ⟨rfl, _, _⟩ | ⟨_, q⟩
      · exact ⟨_, e⟩
      · exact ⟨_, q⟩
    have w2 : ∃ r0, env[k]? = some (.rs r0) := by
      rcases set_get q2 with ⟨rfl, _, _⟩ | ⟨_, q⟩
      · exact ⟨_, e⟩
      · exact ⟨_, q⟩
    obtain ⟨r3, w1⟩ := w1
    obtain ⟨r4, w2⟩ := w2
    exact f.ap j k r3 r4 a o n w1 w2
theorem Sts.unpin {i : Nat} {l : Addr} {d : D} (s : Sts p G0 H0 env σ G H) (e : env[i]? = some (.rs (dnAt l d))) : Sts p G0 H0 (env.set i (.rs (dn d))) σ G H := s.conv e fun _ _ _ h => h.2
theorem Sts.pin {i : Nat} {l : Addr} {d : D} (s : Sts p G0 H0 env σ G H) (e : env[i]? = some (.rs (dn d))) (hv : σ[i]? = some (some (.ref l))) : Sts p G0 H0 (env.set i (.rs (dnAt l d))) σ G H := s.conv e fun v _ q h => by
  rw [hv] at q; cases q
  exact ⟨rfl, h⟩
/-- where the pinned list stands -/
theorem Sts.pinned {α : Type} [Enc α] [Imm α] {i : Nat} {l : Addr} {xs : List α} (s : Sts p G0 H0 env σ G H) (e : env[i]? = some (.rs (dnAt l (.lst (xs.map enc))))) : ∃ vs, H l = some (.lst vs) ∧ RpA p G (xs.map enc) vs := by
  obtain ⟨Fs, f⟩ := s.rs
  obtain ⟨v, a1, ⟨rfl, a, vs, F', e1, h1, h2, h3⟩, a3, a4⟩ := f.wh i _ e
  cases e1
  obtain ⟨r, _⟩ := DnA.imm_rp _ (immA_map xs) h1
  exact ⟨vs, a3 _ _ (by rw [h3]; exact upd_same), r⟩
end
section
variable {p : Pm} {env env' : List Sl} {ta te : TE} {t tz : TS} {α β γ ρ s : Type} [Enc α] [Enc β] [Enc γ] {Po : Post ρ}
theorem k_forP [Imm α] {i : Nat} {g : TG} {js : List Nat} {d : D} {mx : Option (List α)} {f : s → α → Option s} {envS : Addr → s → List Sl} {envB : Addr → s → α → List Sl} {envN : s → List Sl} {x0 : s}
    (h : env[i]? = some (.rs (dn d))) (hd : ∀ xs, mx = some xs → d = .lst (xs.map enc)) (hi : ∀ l x, (envS l x)[i]? = some (.rs (dnAt l d))) (h0 : ∀ l, leE (env.set i (.rs (dnAt l d))) (envS l x0)) (hn : ∀ l x, leE ((envS l x).set i (.rs (dn d))) (envN x))
    (hg : ∀ l x a, Tg p g (enc a) (envS l x) (envB l x a) js) (hb : ∀ l x a, Bk p t (envB l x a) (f x a) (pN p (envS l))) : Bk p (tFor (iList p.K (tVar i)) g t) env (mx.bind fun xs => forS f x0 xs) (pN p envN) := fun r e G0 H0 σ G H st D q => by
  obtain ⟨xs, e1, e⟩ := bind_some e
  have ed := hd xs e1
  subst ed
  obtain ⟨Fs, ff⟩ := st.rs
  obtain ⟨v, a1, ⟨l, vs, F', rfl, h1, h2, h3⟩, a3, a4⟩ := ff.wh i _ h
  have hH : H l = some (.lst vs) := a3 _ _ (by rw [h3]; exact upd_same)
  refine ⟨_, a1, l, rfl, ⟨vs, .of hH⟩, fun i' m σ' H' => m = xs.length - i' ∧ i' ≤ xs.length ∧ ∃ x G', forS f x (xs.drop i') = some r ∧ Sts p G0 H0 (envS l x) σ' G' H' ∧ Same G G', ⟨_, rfl, Nat.zero_le _, x0, G, e, (st.pin h a1).le (h0 l), .refl _⟩, ?_⟩
  rintro i' m σ' H' ⟨rfl, hle, x, G', hf, s', sg⟩
  obtain ⟨ws, w1, w2⟩ := s'.pinned (hi l x)
  have hs : SqL p.K H' l ws := .of w1
  have ll := w2.length
  rw [List.length_map] at ll
  by_cases hlt : i' < xs.length
  · obtain ⟨u, u1, u2⟩ := w2.get (i := i') (d := enc xs[i']) (by rw [List.getElem?_map, List.getElem?_eq_getElem hlt]; rfl)
    rw [List.drop_eq_getElem_cons hlt] at hf
    obtain ⟨y, hy, hf⟩ := bind_some hf
    refine .inr ⟨⟨ws, u, hs, u1⟩, fun σ2 H2 => ∃ x G', forS f x (xs.drop (i' + 1)) = some r ∧ Sts p G0 H0 (envS l x) σ2 G' H2 ∧ Same G G', fun σ2 H2 z => ⟨xs.length - (i' + 1), by omega, rfl, hlt, z⟩, fun v H2 yv => ?_⟩
    obtain ⟨rfl, yv⟩ := yv
    have yv := yv ws hs
    rw [u1] at yv; cases yv
    refine hg l x xs[i'] G0 H0 σ' G' H2 u s' u2 _ fun σ3 s3 _ => ?_
    have fin : ∀ σ4 G4 H4, Sts p G0 H0 (envS l y) σ4 G4 H4 → Same G' G4 → ∃ x G', forS f x (xs.drop (i' + 1)) = some r ∧ Sts p G0 H0 (envS l x) σ4 G' H4 ∧ Same G G' := fun σ4 G4 H4 s4 sg4 => ⟨y, G4, hf, s4, sg.trans sg4⟩
    exact hb l x xs[i'] y hy G0 H0 σ3 G' H2 s3 _ fin
  · have ei : i' = xs.length := by omega
    subst ei
    rw [List.drop_length] at hf
    cases hf
    exact .inl ⟨⟨ws, hs, by omega⟩, q σ' G' H' ((s'.unpin (hi l _)).le (hn l _)) sg⟩
theorem k_forBP [Imm α] {nw : Bool} {i : Nat} {g : TG} {js : List Nat} {d : D} {mx : Option (List α)} {f : s → α → Option (Rr s β)} {envS : Addr → s → List Sl} {envB : Addr → s → α → List Sl} {envN : s → List Sl} {x0 : s}
    (h : env[i]? = some (.rs (dn d))) (hd : ∀ xs, mx = some xs → d = .lst (xs.map enc)) (hi : ∀ l x, (envS l x)[i]? = some (.rs (dnAt l d))) (h0 : ∀ l, leE (env.set i (.rs (dnAt l d))) (envS l x0)) (hn : ∀ l x, leE ((envS l x).set i (.rs (dn d))) (envN x))
    (hg : ∀ l x a, Tg p g (enc a) (envS l x) (envB l x a) js) (hb : ∀ l x a, Bk p t (envB l x a) (f x a) (pB p nw (envS l))) : Bk p (tFor (iList p.K (tVar i)) g t) env (mx.bind fun xs => forB f x0 xs) (pB p nw envN) := fun r e G0 H0 σ G H st D q => by
  obtain ⟨xs, e1, e⟩ := bind_some e
  have ed := hd xs e1
  subst ed
  obtain ⟨Fs, ff⟩ := st.rs
  obtain ⟨v, a1, ⟨l, vs, F', rfl, h1, h2, h3⟩, a3, a4⟩ := ff.wh i _ h
  have hH : H l = some (.lst vs) := a3 _ _ (by rw [h3]; exact upd_same)
  refine ⟨_, a1, l, rfl, ⟨vs, .of hH⟩, fun i' m σ' H' => m = xs.length - i' ∧ i' ≤ xs.length ∧ ∃ x G', forB f x (xs.drop i') = some r ∧ Sts p G0 H0 (envS l x) σ' G' H' ∧ Same G G', ⟨_, rfl, Nat.zero_le _, x0, G, e, (st.pin h a1).le (h0 l), .refl _⟩, ?_⟩
  rintro i' m σ' H' ⟨rfl, hle, x, G', hf, s', sg⟩
  obtain ⟨ws, w1, w2⟩ := s'.pinned (hi l x)
  have hs : SqL p.K H' l ws := .of w1
  have ll := w2.length
  rw [List.length_map] at ll
  by_cases hlt : i' < xs.length
  · obtain ⟨u, u1, u2⟩ := w2.get (i := i') (d := enc xs[i']) (by rw [List.getElem?_map, List.getElem?_eq_getElem hlt]; rfl)
    rw [List.drop_eq_getElem_cons hlt] at hf
    obtain ⟨y, hy, hf⟩ := bind_some hf
    refine .inr ⟨⟨ws, u, hs, u1⟩, fun σ2 H2 => ∃ x G', forB f x (xs.drop (i' + 1)) = some r ∧ Sts p G0 H0 (envS l x) σ2 G' H2 ∧ Same G G', fun σ2 H2 z => ⟨xs.length - (i' + 1), by omega, rfl, hlt, z⟩, fun v H2 yv => ?_⟩
    obtain ⟨rfl, yv⟩ := yv
    have yv := yv ws hs
    rw [u1] at yv; cases yv
    refine hg l x xs[i'] G0 H0 σ' G' H2 u s' u2 _ fun σ3 s3 _ => ?_
    refine hb l x xs[i'] y hy G0 H0 σ3 G' H2 s3 _ ?_
    cases y with
    | nx y => exact fun σ4 G4 H4 s4 sg4 => ⟨y, G4, hf, s4, sg.trans sg4⟩
    | rt y =>
      cases hf
      exact q
  · have ei : i' = xs.length := by omega
    subst ei
    rw [List.drop_length] at hf
    cases hf
    exact .inl ⟨⟨ws, hs, by omega⟩, q σ' G' H' ((s'.unpin (hi l _)).le (hn l _)) sg⟩
/-! ### own lists returned -/
theorem k_retOD [Imm α] {i : Nat} {xs : List α} (h : env[i]? = some (.ow (xs.map enc))) : Bk p (tRet (tVar i)) env (some xs) (pD p (List α)) := fun r e G0 H0 σ G H st D q => by
  cases e
  obtain ⟨Fs, f⟩ := st.rs
  obtain ⟨v, a1, ⟨l, vs, rfl, eF, h2⟩, a3, a4⟩ := f.wh i _ h
  exact ⟨_, a1, q _ G H (Fs i) st.gr a3 (fun a o z => ⟨(a4 a o z).2, (a4 a o z).1⟩) ⟨l, vs, nil, rfl, DnA.of_imm (immA_map xs) h2, rfl, eF⟩⟩
/-- this, or None -/
theorem k_someD {m : Option α} (h : Bk p t env m (pD p α)) : Bk p t env (m.bind fun x => some (some x)) (pD p (Option α)) := fun r e G0 H0 σ G H st D q => by
  obtain ⟨x, e1, e⟩ := bind_some e
  cases e
  exact h x e1 G0 H0 σ G H st D q
theorem en_non : EvN p (tC .non) env (some (none : Option α)) := fun x e G0 H0 σ G H s Q k => by
  cases e
  exact k _ G H nil (.refl s.gr.s) (fun _ _ z => nomatch z) (fun _ _ z => nomatch z) ⟨rfl, rfl⟩
theorem en_some {m : Option α} (h : EvN p te env m) : EvN p te env (m.bind fun x => some (some x)) := fun y e => by
  obtain ⟨x, e1, e2⟩ := bind_some e
  cases e2
  exact h x e1
/-- the place of what is not None -/
theorem lens_un {i : Nat} {x : α} {g : Option (Option β)} {put : Option β → Option α} (L : Lens p env te i x g put) : Lens p env te i x (g.bind fun o => o) (fun c => put (some c)) where
  run := fun {σ G H F v c} h0 h1 h2 h3 e => by
    obtain ⟨o, e1, e2⟩ := bind_some e
    have e2 : o = some c := e2
    subst e2
    obtain ⟨u, Fe, Fr, q1, q2, q3, q5, q4⟩ := L.run h0 h1 h2 h3 e1
    exact ⟨u, Fe, Fr, q1, q2, q3, q5, fun G' c' x' Fe' sg e' k1 k2 => q4 G' (some c') x' Fe' sg e' k1 k2⟩
/-! ### remove -/
def rem? (xs : List Int) (x : Int) : Option (List Int) := if x ∈ xs then some (xs.erase x) else none
theorem erase_at {xs : List Int} {x : Int} (h : x ∈ xs) : ∃ j : Nat, xs[j]? = some x ∧ (∀ m : Nat, m < j → xs[m]? ≠ some x) ∧ xs.erase x = xs.eraseIdx j := by
  induction xs with
  | nil => cases h
  | cons y ys ih =>
    by_cases c : y = x
    · subst c
      exact ⟨0, rfl, fun m hm => absurd hm (by omega), by simp⟩
    · have hy : x ∈ ys := by
        rcases List.mem_cons.mp h with h | h
        · exact absurd h.symm c
        · exact h
      obtain ⟨j, h1, h2, h3⟩ := ih hy
      refine ⟨j + 1, h1, fun m hm => ?_, ?_⟩
      · cases m with
        | zero => intro z; exact c (Option.some.inj z)
        | succ m => exact h2 m (by omega)
      · rw [List.erase_cons, if_neg (by simpa using c), h3]; rfl
theorem k_rem {i : Nat} {xs : List Int} {me : Option Int} {rest : List Int → Option ρ} (h : env[i]? = some (.ow (xs.map enc))) (he : Ev p false te env me) (k : ∀ ys, Bk p tz (env.set i (.ow (ys.map enc))) (rest ys) Po) :
    Bk p (tSeq (tDrop (tBM p.K "list" rRemI (tVar i) (tCons te tNil))) tz) env (me.bind fun x => (rem? xs x).bind rest) Po := fun r e G0 H0 σ G H st D q => by
  obtain ⟨x, e1, e⟩ := bind_some e
  obtain ⟨ys, e2, e⟩ := bind_some e
  unfold rem? at e2
  split at e2
  · rename_i hm
    cases e2
    obtain ⟨Fs, f⟩ := st.rs
    obtain ⟨v, a1, ⟨l0, vs0, rfl, eF, h2⟩, a3, a4⟩ := f.wh i _ h
    refine ⟨.ref l0, a1, .inl ⟨rfl, _, .of (a3 _ _ (by rw [eF]; exact upd_same))⟩, ?_⟩
    refine he x e1 G0 H0 σ G H st _ fun u G1 H1 g1 r1 => ?_
    cases (show u = .int x from r1)
    refine (st.step g1).put h fun l vs b1 b2 b3 _ b4 => ?_
    rw [a1] at b1; cases b1
    have ev : vs = xs.map V.int := RpA.ints b3
    subst ev
    obtain ⟨j, j1, j2, j3⟩ := erase_at hm
    refine ⟨l0, xs, x, j, rfl, rfl, b2, j1, j2, ?_⟩
    refine k (xs.erase x) r e G0 H0 σ G1 _ ?_ D (Po.mono g1.g q)
    rw [j3]
    exact b4 _ _ RpA.of_ints
  · cases e2
end
section
variable {X : Cx} {e : Expr} {es : List Expr} {t : TA}
theorem xe_remove (K) {apos cpos : Pos} {o : Expr} {to : TE} (ho : PE X o to) (ha : PA X (e :: es) t) (hbase : attributeBase o "remove" X.env (eval o X.env) = eval o X.env := by rfl)
    (hfew : ((backTo cpos (starEach (e :: es) X.env)).all (fun x => !x.1) && (backToKw cpos (keywordEach [] X.env)).all (fun x => x.1.isSome) && decide ((e :: es).length + ([] : List Keyword).length + (if ([] : List Keyword).isEmpty then 0 else 1) < 30)) = true := by rfl)
    (hline : (apos.endLine == cpos.line) = true := by rfl) (hs : starEach (e :: es) X.env = (false, eval e X.env) :: starEach es X.env := by rfl) (hplain : (backTo cpos (starEach es X.env)).any (·.1) = false := by rfl) (hK : X.K = K := by rfl) :
    PE X (.Call (.Attribute o "remove" apos) (e :: es) [] cpos) (tBM K "list" rRemI to t) := by
  subst hK
  exact pe_bm PySem.F.plainAttrs_list PySem.F.slot_list_remove PySem.F.type_list_remove mt_remove ho ha hbase hfew hline hs hplain
end
end PU

set_option Elab.async false
set_option maxRecDepth 100000
set_option linter.all false
/-! PU22: what is new, of any sort; dicts of whole numbers. -/
namespace PU
open PySem L2
open Enc
section
variable {p : Pm} {env env' : List Sl} {ta tb te tk : TE} {t tz : TS} {α β γ ρ s : Type} [Enc α] [Enc β] [Enc γ] {Po : Post ρ}
/-- te gives m, a new thing of the sort r -/
def EvR (p : Pm) (te : TE) (env : List Sl) {α : Type} (m : Option α) (r : α → Rs) : Prop :=
  ∀ x, m = some x → ∀ G0 H0 σ G H, Sts p G0 H0 env σ G H → ∀ Q : VK, (∀ v G' H' N, Gr G G' H H' → Same N H' → (∀ a o, N a = some o → H a = none ∧ G' a = none) → (r x).R p G' v N → Q v H') → te σ H Q
theorem EvN.r {m : Option α} (h : EvN p te env m) : EvR p te env m fun x => dn (enc x) := h
theorem k_asgR {δ : Type} {r : δ → Rs} {i : Nat} {me : Option δ} {rest : δ → Option ρ} (h : EvR p te env me r) (k : ∀ x, Bk p tz (env.set i (.rs (r x))) (rest x) Po) : Bk p (tSeq (tAsg te (gName i)) tz) env (me.bind rest) Po := fun q e G0 H0 σ G H st D z => by
  obtain ⟨x, e1, e⟩ := bind_some e
  refine h x e1 G0 H0 σ G H st _ fun v G1 H1 N g1 sN nN r1 => ?_
  exact k x q e G0 H0 _ G1 H1 (st.set_rs g1 r1 sN nN) D (Po.mono g1.g z)
/-- a, b = (a new thing), y -/
theorem k_parR {δ : Type} {r : δ → Rs} {i j : Nat} {ma : Option δ} {mb : Option β} {rest : δ → β → Option ρ} (ha : EvR p ta env ma r) (hb : Ev p false tb env mb) (k : ∀ x y, Bk p tz ((env.set i (.rs (r x))).set j (.va (enc y))) (rest x y) Po) :
    Bk p (tSeq (tPar i j (tCons ta (tCons tb tNil))) tz) env (ma.bind fun x => mb.bind fun y => rest x y) Po := fun q e G0 H0 σ G H st D z => by
  obtain ⟨x, e1, e⟩ := bind_some e
  obtain ⟨y, e2, e⟩ := bind_some e
  refine ha x e1 G0 H0 σ G H st _ fun v G1 H1 N g1 sN nN r1 => hb y e2 G0 H0 σ G1 H1 (st.step g1) _ fun w G2 H2 g2 r2 => ⟨v, w, rfl, ?_⟩
  refine k x y q e G0 H0 _ G2 H2 ?_ D (Po.mono (g1.trans g2).g z)
  have s1 : Sts p G0 H0 (env.set i (.rs (r x))) (σ.set i (some v)) G1 H1 := st.set_rs g1 r1 sN nN
  exact (s1.step g2).set_va r2
/-- the same by a tuple, and unpacked -/
theorem k_tupR {δ : Type} {r : δ → Rs} {i j : Nat} {ma : Option δ} {mb : Option β} {rest : δ → β → Option ρ} (ha : EvR p ta env ma r) (hb : Ev p false tb env mb) (k : ∀ x y, Bk p tz ((env.set i (.rs (r x))).set j (.va (enc y))) (rest x y) Po) :
    Bk p (tSeq (tAsg (tTup (tCons ta (tCons tb tNil))) (gTup p.K 2 (gCons (gName i) (gCons (gName j) gNil)))) tz) env (ma.bind fun x => mb.bind fun y => rest x y) Po := fun q e G0 H0 σ G H st D z => by
  obtain ⟨x, e1, e⟩ := bind_some e
  obtain ⟨y, e2, e⟩ := bind_some e
  refine ha x e1 G0 H0 σ G H st _ fun v G1 H1 N g1 sN nN r1 => hb y e2 G0 H0 σ G1 H1 (st.step g1) _ fun w G2 H2 g2 r2 => ?_
  refine ⟨by show 2 ≤ sizeLine; decide, fun l hl => ⟨l, [v, w], rfl, .of upd_same, rfl, v, _, rfl, w, _, rfl, rfl, ?_⟩⟩
  have s1 : Sts p G0 H0 (env.set i (.rs (r x))) (σ.set i (some v)) G1 H1 := st.set_rs g1 r1 sN nN
  exact k x y q e G0 H0 _ G2 _ (((s1.step g2).set_va r2).step ⟨.refl _, g2.s.trans (same_new hl), same_new hl, fun a o h z => by rw [h] at z; cases z⟩) D (Po.mono (g1.trans g2).g z)
/-! ### two at once, of any sort -/
def RsX (p : Pm) (H G' H' : Hp) (v : V) : Sl → Prop
  | .fr => True
  | .va d => Rp p G' d v
  | .rs r => ∃ N, Same N H' ∧ (∀ a o, N a = some o → H a = none ∧ G' a = none) ∧ r.R p G' v N
def EvX (p : Pm) (te : TE) (env : List Sl) {α : Type} (m : Option α) (f : α → Sl) : Prop :=
  ∀ x, m = some x → ∀ G0 H0 σ G H, Sts p G0 H0 env σ G H → ∀ Q : VK, (∀ v G' H', Gr G G' H H' → RsX p H G' H' v (f x) → Q v H') → te σ H Q
theorem ex_va {m : Option α} (h : Ev p false te env m) : EvX p te env m fun x => .va (enc x) := h
theorem ex_ow {m : Option (List α)} (h : Ev p true te env m) : EvX p te env m fun x => .ow (x.map enc) := fun x e G0 H0 σ G H st Q k =>
  h x e G0 H0 σ G H st Q fun v G' H' g r => by
    obtain ⟨l, vs, ds, rfl, e2, h1, h2, h3, h4⟩ := r
    have e3 : ds = x.map enc := by
      injection e2 with e2
      exact e2.symm
    subst e3
    refine k _ G' H' g ⟨sing l (.lst vs), fun a o q => ?_, fun a o q => ?_, l, vs, rfl, rfl, h4⟩
    · obtain ⟨rfl, rfl⟩ := sing_iff.mp q; exact h3
    · obtain ⟨rfl, rfl⟩ := sing_iff.mp q; exact ⟨h1, h2⟩
theorem ex_r {δ : Type} {r : δ → Rs} {m : Option δ} (h : EvR p te env m r) : EvX p te env m fun x => .rs (r x) := fun x e G0 H0 σ G H st Q k =>
  h x e G0 H0 σ G H st Q fun v G' H' N g s n z => k v G' H' g ⟨N, s, n, z⟩
theorem ex_dn {m : Option α} (h : EvN p te env m) : EvX p te env m fun x => .rs (dn (enc x)) := ex_r (r := fun x => dn (enc x)) h
theorem Sts.setX {σ : St} {G0 H0 G H G' H' : Hp} {i : Nat} {v : V} {s : Sl} (st : Sts p G0 H0 env σ G H) (g : Gr G G' H H') (r : RsX p H G' H' v s) : Sts p G0 H0 (env.set i s) (σ.set i (some v)) G' H' := by
  cases s with
  | va d => exact (st.step g).set_va r
  | rs q =>
    obtain ⟨N, h1, h2, h3⟩ := r
    exact st.set_rs g h3 h1 h2
  | fr =>
    have st' := (st.step g).set_va (i := i) (d := .non) (v := .non) rfl
    obtain ⟨Fs, f⟩ := (st.step g).rs
    refine ⟨st'.gr, by have := st'.len; simp at this ⊢; exact this, fun j d q => ?_, Fs, fun j r' q => ?_, fun j k r1 r2 a o n q q' => ?_⟩
    · rcases set_get q with ⟨_, q, _⟩ | ⟨hj, q⟩
      · cases q
      · rw [List.getElem?_set_ne hj]
        exact (st.step g).va j d q
    · rcases set_get q with ⟨_, q, _⟩ | ⟨hj, q⟩
      · cases q
      · rw [List.getElem?_set_ne hj]
        exact f.wh j r' q
    · rcases set_get q with ⟨_, q, _⟩ | ⟨_, q⟩
      · cases q
      · rcases set_get q' with ⟨_, q', _⟩ | ⟨_, q'⟩
        · cases q'
        · exact f.ap j k r1 r2 a o n q q'
theorem k_parX {δ ε : Type} {fa : δ → Sl} {fb : ε → Sl} {i j : Nat} {ma : Option δ} {mb : Option ε} {rest : δ → ε → Option ρ} (ha : EvX p ta env ma fa) (hb : EvX p tb env mb fb) (k : ∀ x y, Bk p tz ((env.set i (fa x)).set j (fb y)) (rest x y) Po) :
    Bk p (tSeq (tPar i j (tCons ta (tCons tb tNil))) tz) env (ma.bind fun x => mb.bind fun y => rest x y) Po := fun q e G0 H0 σ G H st D z => by
  obtain ⟨x, e1, e⟩ := bind_some e
  obtain ⟨y, e2, e⟩ := bind_some e
  refine ha x e1 G0 H0 σ G H st _ fun v G1 H1 g1 r1 => hb y e2 G0 H0 σ G1 H1 (st.step g1) _ fun w G2 H2 g2 r2 => ⟨v, w, rfl, ?_⟩
  exact k x y q e G0 H0 _ G2 H2 ((st.setX g1 r1).setX g2 r2) D (Po.mono (g1.trans g2).g z)
theorem k_tupX {δ ε : Type} {fa : δ → Sl} {fb : ε → Sl} {i j : Nat} {ma : Option δ} {mb : Option ε} {rest : δ → ε → Option ρ} (ha : EvX p ta env ma fa) (hb : EvX p tb env mb fb) (k : ∀ x y, Bk p tz ((env.set i (fa x)).set j (fb y)) (rest x y) Po) :
    Bk p (tSeq (tAsg (tTup (tCons ta (tCons tb tNil))) (gTup p.K 2 (gCons (gName i) (gCons (gName j) gNil)))) tz) env (ma.bind fun x => mb.bind fun y => rest x y) Po := fun q e G0 H0 σ G H st D z => by
  obtain ⟨x, e1, e⟩ := bind_some e
  obtain ⟨y, e2, e⟩ := bind_some e
  refine ha x e1 G0 H0 σ G H st _ fun v G1 H1 g1 r1 => hb y e2 G0 H0 σ G1 H1 (st.step g1) _ fun w G2 H2 g2 r2 => ?_
  refine ⟨by show 2 ≤ sizeLine; decide, fun l hl => ⟨l, [v, w], rfl, .of upd_same, rfl, v, _, rfl, w, _, rfl, rfl, ?_⟩⟩
  exact k x y q e G0 H0 _ G2 _ (((st.setX g1 r1).setX g2 r2).step ⟨.refl _, g2.s.trans (same_new hl), same_new hl, fun a o h z => by rw [h] at z; cases z⟩) D (Po.mono (g1.trans g2).g z)
/-! ### dicts of whole numbers -/
def kvs (m : List (Int × Int)) : List (Key × V) := m.map fun q => (.inl q.1, .int q.2)
def dct (m : List (Int × Int)) : Rs := ⟨fun _ _ v F => ∃ a, v = .ref a ∧ F = sing a (.dK (kvs m)), fun _ h => h⟩
def getM (m : List (Int × Int)) (k : Int) : Option Int := (m.find? fun q => decide (q.1 = k)).map (·.2)
def getD (m : List (Int × Int)) (k z : Int) : Int := (getM m k).getD z
def putM (m : List (Int × Int)) (k v : Int) : List (Int × Int) := if (m.any fun q => decide (q.1 = k)) = true then m.map (fun q => if q.1 = k then (q.1, v) else q) else m ++ [(k, v)]
def putD? (m : List (Int × Int)) (k v : Int) : Option (List (Int × Int)) := if m.length < 100000 then some (putM m k v) else none
theorem valV_kvs {m : List (Int × Int)} {k : Int} : valV (kvs m) (.inl k) = (getM m k).map V.int := by
  unfold valV kvs getM
  rw [List.find?_map]
  have : ((fun kv : Key × V => decide (kv.1 = .inl k)) ∘ fun q : Int × Int => ((.inl q.1 : Key), V.int q.2)) = fun q : Int × Int => decide (q.1 = k) := by
    funext q
    show decide ((Sum.inl q.1 : Key) = .inl k) = _
    by_cases c : q.1 = k <;> simp [c]
  rw [this]
  cases m.find? fun q => decide (q.1 = k) <;> rfl
theorem putK_kvs {m : List (Int × Int)} {k v : Int} : putK (kvs m) (.inl k) (.int v) = kvs (putM m k v) := by
  unfold putK putM
  have e : ((kvs m).any fun kv => decide (kv.1 = .inl k)) = m.any fun q => decide (q.1 = k) := by
    unfold kvs
    rw [List.any_map]
    congr 1
    funext q
    show decide ((Sum.inl q.1 : Key) = .inl k) = _
    by_cases c : q.1 = k <;> simp [c]
  rw [e]
  by_cases c : (m.any fun q => decide (q.1 = k)) = true
  · rw [if_pos c, if_pos c]
    unfold kvs
    rw [List.map_map, List.map_map]
    congr 1
    funext q
    show (if (Sum.inl q.1 : Key) = .inl k then _ else _) = _
    by_cases d : q.1 = k
    · rw [if_pos (by rw [d]), show ((fun q : Int × Int => ((.inl q.1 : Key), V.int q.2)) ∘ fun q : Int × Int => if q.1 = k then (q.1, v) else q) q = (.inl (if q.1 = k then (q.1, v) else q).1, .int (if q.1 = k then (q.1, v) else q).2) from rfl, if_pos d]
    · rw [if_neg (by simpa using d), show ((fun q : Int × Int => ((.inl q.1 : Key), V.int q.2)) ∘ fun q : Int × Int => if q.1 = k then (q.1, v) else q) q = (.inl (if q.1 = k then (q.1, v) else q).1, .int (if q.1 = k then (q.1, v) else q).2) from rfl, if_neg d]
  · rw [if_neg c, if_neg c]
    unfold kvs
    rw [List.map_append]; rfl
theorem er_dnew : EvR p tDNewK env (some ([] : List (Int × Int))) dct := fun x e G0 H0 σ G H s Q k a na => by
  cases e
  refine k (.ref a) G _ (sing a (.dK [])) (.own s.gr.s na) (fun b o q => ?_) (fun b o q => ?_) ⟨a, rfl, rfl⟩
  · obtain ⟨rfl, rfl⟩ := sing_iff.mp q; exact upd_same
  · obtain ⟨rfl, rfl⟩ := sing_iff.mp q; exact ⟨na, s.gr.s.free na⟩
theorem Sts.dct {i : Nat} {m : List (Int × Int)} {σ : St} {G0 H0 G H : Hp} (s : Sts p G0 H0 env σ G H) (h : env[i]? = some (.rs (dct m))) : ∃ a, σ[i]? = some (some (.ref a)) ∧ H a = some (.dK (kvs m)) := by
  obtain ⟨Fs, f⟩ := s.rs
  obtain ⟨v, a1, ⟨a, rfl, eF⟩, a3, a4⟩ := f.wh i _ h
  exact ⟨a, a1, a3 _ _ (by rw [eF]; exact upd_same)⟩
/-- d.get(k, z) -/
theorem dct_get2 {i : Nat} {m : List (Int × Int)} {mk mz : Option Int} (h : env[i]? = some (.rs (dct m))) (hk : Ev p false ta env mk) (hz : Ev p false tb env mz) : Ev p false (tDGet2 (tVar i) ta tb) env (mk.bind fun k => mz.bind fun z => some (getD m k z)) := fun r e G0 H0 σ G H s Q kk => by
  obtain ⟨k, e1, e⟩ := bind_some e
  obtain ⟨z, e2, e⟩ := bind_some e
  cases e
  obtain ⟨a, a1, a2⟩ := s.dct h
  refine ⟨_, a1, a, rfl, .inl ⟨_, .of a2⟩, ?_⟩
  refine hk k e1 G0 H0 σ G H s _ fun v G1 H1 g1 r1 => hz z e2 G0 H0 σ G1 H1 (s.step g1) _ fun w G2 H2 g2 r2 => ?_
  cases (show v = .int k from r1)
  cases (show w = .int z from r2)
  refine ⟨(getM m k).map V.int, ?_, kk _ G2 H2 (g1.trans g2) ?_⟩
  · rw [← valV_kvs]
    exact DGet.k (k := .inl k) ((g1.trans g2).h _ _ a2)
  · show ((getM m k).map V.int).getD (.int z) = .int (getD m k z)
    unfold getD
    cases getM m k <;> rfl
/-- d[k] = e -/
theorem k_dput {i : Nat} {m : List (Int × Int)} {mk me : Option Int} {rest : List (Int × Int) → Option ρ} (h : env[i]? = some (.rs (dct m))) (he : Ev p false te env me) (hk : Ev p false ta env mk) (k : ∀ m', Bk p tz (env.set i (.rs (dct m'))) (rest m') Po) :
    Bk p (tSeq (tAsg te (gSub (tVar i) ta rSetD)) tz) env (me.bind fun x => mk.bind fun j => (putD? m j x).bind rest) Po := fun r e G0 H0 σ G H st D q => by
  obtain ⟨x, e1, e⟩ := bind_some e
  obtain ⟨j, e2, e⟩ := bind_some e
  obtain ⟨m', e3, e⟩ := bind_some e
  unfold putD? at e3
  split at e3
  · rename_i hl
    cases e3
    refine he x e1 G0 H0 σ G H st _ fun v G1 H1 g1 r1 => ?_
    obtain ⟨a, a1, a2⟩ := st.dct h
    refine ⟨_, a1, ?_⟩
    refine hk j e2 G0 H0 σ G1 H1 (st.step g1) _ fun w G2 H2 g2 r2 => ?_
    cases (show v = .int x from r1)
    cases (show w = .int j from r2)
    have g := g1.trans g2
    refine ⟨a, _, rfl, DPut.k (k := .inl j) (g.h _ _ a2) (by unfold kvs; rw [List.length_map]; exact Nat.lt_of_lt_of_le hl (by decide)), ?_⟩
    refine st.writeG g h fun v0 F b1 b2 b3 b4 wr => ?_
    rw [a1] at b1
    cases b1
    obtain ⟨a', ea, rfl⟩ := b2
    cases ea
    have es : σ = σ.set i (some (.ref a)) := by
      obtain ⟨hi, hh⟩ := List.getElem?_eq_some_iff.mp a1
      rw [← hh, List.set_getElem_self]
    rw [putK_kvs, es]
    refine k (putM m j x) r e G0 H0 _ G2 _ (wr (dct (putM m j x)) (.ref a) (sing a (.dK (kvs (putM m j x)))) _ ⟨fun b o z => ?_, fun b z1 z2 => ?_, fun b o z1 z2 => ?_⟩ ⟨a, rfl, rfl⟩) D (Po.mono g.g q)
    · obtain ⟨rfl, rfl⟩ := sing_iff.mp z; exact upd_same
    · have c : b ≠ a := fun c => by
        subst c
        have : sing b (HO.dK (kvs m)) b = none := z1
        rw [show sing b (HO.dK (kvs m)) b = some (.dK (kvs m)) from upd_same] at this; cases this
      exact upd_ne c
    · obtain ⟨rfl, rfl⟩ := sing_iff.mp z1
      rw [show sing b (HO.dK (kvs m)) b = some (.dK (kvs m)) from upd_same] at z2; cases z2
  · cases e3
theorem ev_intB {ma : Option Bool} (h : Ev p false te env ma) : Ev p false (tCB (fun xs H Q => (∃ i, xs = [.int i] ∧ Q (.int i) H) ∨ ∃ k, xs = [.bl k] ∧ Q (.int (if k then 1 else 0)) H) (tCons te tNil)) env (ma.bind fun b => some (if b then (1 : Int) else 0)) := ev_cb1 h fun b z e G H vs s r Q k => by
  cases e
  obtain ⟨v, ws, rfl, h1, rfl⟩ := r
  cases (show v = .bl b from h1)
  exact .inr ⟨b, rfl, k _ G H (.refl s) rfl⟩
end
end PU

set_option Elab.async false
set_option maxRecDepth 100000
set_option linter.all false
/-! PU23: parts of what is one's own, lent for a while; walks that change the items; extend. -/
namespace PU
open PySem L2
open Enc
/-- the value alone -/
def rv (v : V) : Rs := ⟨fun _ _ u F => u = v ∧ F = nil, fun _ h => h⟩
/-- v, and within it w, of the sort q -/
def hold (v w : V) (q : Rs) : Rs := ⟨fun p G x F => x = v ∧ q.R p G w F, fun e h => ⟨h.1, q.mono e h.2⟩⟩
section
variable {p : Pm} {env : List Sl} {σ : St} {G0 H0 G H : Hp}
theorem un_dj_l {A B C : Hp} (h : Dj A C) (k : Dj B C) : Dj (un A B) C := fun a o e => (un_some e).elim (h a o) (k a o)
/-- a part B of what slot i holds is laid aside -/
theorem Sts.lend {i : Nat} {r : Rs} (s : Sts p G0 H0 env σ G H) (e : env[i]? = some (.rs r)) : ∃ v F, σ[i]? = some (some v) ∧ r.R p G v F ∧ Same F H ∧ (∀ a o, F a = some o → G a = none ∧ H0 a = none) ∧
    ∀ (A B : Hp) (r' : Rs), F = un A B → Dj A B → r'.R p G v A → Sts p G0 (un H0 B) (env.set i (.rs r')) σ G H := by
  obtain ⟨Fs, f⟩ := s.rs
  obtain ⟨v, a1, a2, a3, a4⟩ := f.wh i _ e
  refine ⟨v, Fs i, a1, a2, a3, a4, fun A B r' eF dj h' => ?_⟩
  have sA : Same A (Fs i) := by rw [eF]; exact same_un1
  have sB : Same B (Fs i) := by rw [eF]; exact same_un2 dj
  refine ⟨⟨s.gr.g, s.gr.s, un_same s.gr.h (sB.trans a3), fun a o q w => un_none.mpr ⟨s.gr.n a o q w, ?_⟩⟩, by simp [s.len], fun j d q => ?_, fun j => if i = j then A else Fs j, fun j r1 q => ?_, fun j l r1 r2 a o n q1 q2 q => ?_⟩
  · cases z : B a with
    | none => rfl
    | some u =>
      have := (a4 a u (sB a u z)).1
      rw [q] at this; cases this
  · rcases set_get q with ⟨_, q, _⟩ | ⟨_, q⟩
    · cases q
    · exact s.va j d q
  · rcases set_get q with ⟨rfl, q, _⟩ | ⟨hj, q⟩
    · cases q
      simp only [if_true]
      refine ⟨v, a1, h', sA.trans a3, fun a o z => ⟨(a4 a o (sA a o z)).1, un_none.mpr ⟨(a4 a o (sA a o z)).2, dj a o z⟩⟩⟩
    · simp only [if_neg hj]
      obtain ⟨v1, b1, b2, b3, b4⟩ := f.wh j r1 q
      refine ⟨v1, b1, b2, b3, fun a o z => ⟨(b4 a o z).1, un_none.mpr ⟨(b4 a o z).2, ?_⟩⟩⟩
      cases y : B a with
      | none => rfl
      | some u =>
        have := f.ap i j _ _ a u hj e q (sB a u y)
        rw [z] at this; cases this
  · have w1 : ∃ r0, env[j]? = some (.rs r0) := by
      rcases set_get q1 with ⟨rfl, _, _⟩ | ⟨_, q⟩
      · exact ⟨_, e⟩
      · exact ⟨_, q⟩
    have w2 : ∃ r0, env[l]? = some (.rs r0) := by
      rcases set_get q2 with ⟨rfl, _, _⟩ | ⟨_, q⟩
      · exact ⟨_, e⟩
      · exact ⟨_, q⟩
    obtain ⟨r3, w1⟩ := w1
    obtain ⟨r4, w2⟩ := w2
    have sub : ∀ j' a o, (if i = j' then A else Fs j') a = some o → Fs j' a = some o := fun j' a o z => by
      by_cases c : i = j'
      · subst c; simp only [if_true] at z; exact sA a o z
      · simp only [if_neg c] at z; exact z
    have h1 := f.ap j l r3 r4 a o n w1 w2 (sub j a o q)
    cases z : (if i = l then A else Fs l) a with
    | none => rfl
    | some u => rw [sub l a u z] at h1; cases h1
/-- and taken back -/
theorem Sts.back {i : Nat} {q r : Rs} {B : Hp} (s : Sts p G0 (un H0 B) env σ G H) (e : env[i]? = some (.rs q)) (bG : ∀ a o, B a = some o → G0 a = none) (bH : Dj B H0)
    (k : ∀ v A, σ[i]? = some (some v) → q.R p G v A → Dj A B → Same B H → r.R p G v (un A B)) : Sts p G0 H0 (env.set i (.rs r)) σ G H := by
  obtain ⟨Fs, f⟩ := s.rs
  obtain ⟨v, a1, a2, a3, a4⟩ := f.wh i _ e
  have dj : Dj (Fs i) B := fun a o z => (un_none.mp (a4 a o z).2).2
  have sB : Same B H := fun a o z => s.gr.h a o (same_un2 bH.symm a o z)
  have sH : Same H0 H := fun a o z => s.gr.h a o (same_un1 a o z)
  have h' := k v (Fs i) a1 a2 dj sB
  have freshB : ∀ a o, B a = some o → G a = none := fun a o z => by
    cases y : G a with
    | none => rfl
    | some u =>
      have := s.gr.n a u y (bG a o z)
      rw [(un_none.mp this).2] at z; cases z
  refine ⟨⟨s.gr.g, s.gr.s, sH, fun a o q w => (un_none.mp (s.gr.n a o q w)).1⟩, by simp [s.len], fun j d q => ?_, fun j => if i = j then un (Fs i) B else Fs j, fun j r1 q => ?_, fun j l r1 r2 a o n q1 q2 q => ?_⟩
  · rcases set_get q with ⟨_, q, _⟩ | ⟨_, q⟩
    · cases q
    · exact s.va j d q
  · rcases set_get q with ⟨rfl, q, _⟩ | ⟨hj, q⟩
    · cases q
      simp only [if_true]
      refine ⟨v, a1, h', un_same a3 sB, fun a o z => ?_⟩
      rcases un_some z with z | z
      · exact ⟨(a4 a o z).1, (un_none.mp (a4 a o z).2).1⟩
      · exact ⟨freshB a o z, bH a o z⟩
    · simp only [if_neg hj]
      obtain ⟨v1, b1, b2, b3, b4⟩ := f.wh j r1 q
      exact ⟨v1, b1, b2, b3, fun a o z => ⟨(b4 a o z).1, (un_none.mp (b4 a o z).2).1⟩⟩
  · have w1 : ∃ r0, env[j]? = some (.rs r0) := by
      rcases set_get q1 with ⟨rfl, _, _⟩ | ⟨_, q⟩
      · exact ⟨_, e⟩
      · exact ⟨_, q⟩
    have w2 : ∃ r0, env[l]? = some (.rs r0) := by
      rcases set_get q2 with ⟨rfl, _, _⟩ | ⟨_, q⟩
      · exact ⟨_, e⟩
      · exact ⟨_, q⟩
    obtain ⟨r3, w1⟩ := w1
    obtain ⟨r4, w2⟩ := w2
    obtain ⟨_, _, _, _, c1⟩ := f.wh j r3 w1
    obtain ⟨_, _, _, _, c2⟩ := f.wh l r4 w2
    have ap := fun a o => f.ap j l r3 r4 a o n w1 w2
    have ap' := fun a o => f.ap l j r4 r3 a o (Ne.symm n) w2 w1
    by_cases cj : i = j
    · subst cj
      simp only [if_true] at q
      simp only [if_neg n]
      rcases un_some q with q | q
      · exact ap a o q
      · cases z : Fs l a with
        | none => rfl
        | some u =>
          have := (un_none.mp (c2 a u z).2).2
          rw [q] at this; cases this
    · simp only [if_neg cj] at q
      by_cases cl : i = l
      · subst cl
        simp only [if_true]
        exact un_none.mpr ⟨ap a o q, (un_none.mp (c1 a o q).2).2⟩
      · simp only [if_neg cl]
        exact ap a o q
/-- what slot i holds goes to slot j -/
theorem Sts.move {i j : Nat} {q : Rs} {v w : V} (s : Sts p G0 H0 env σ G H) (e : env[i]? = some (.rs (hold v w q))) (hij : i ≠ j) : Sts p G0 H0 ((env.set i (.rs (rv v))).set j (.rs q)) (σ.set j (some w)) G H := by
  obtain ⟨Fs, f⟩ := s.rs
  obtain ⟨v0, a1, ⟨rfl, a2⟩, a3, a4⟩ := f.wh i _ e
  have old : ∀ {l : Nat} {r1 : Rs}, ((env.set i (.rs (rv v0))).set j (.rs q))[l]? = some (.rs r1) → (l = j ∧ r1 = q ∧ j < env.length) ∨ (l ≠ j ∧ l = i ∧ r1 = rv v0) ∨ (l ≠ j ∧ l ≠ i ∧ env[l]? = some (.rs r1)) := fun {l r1} z => by
    rcases set_get z with ⟨h1, z, h2⟩ | ⟨h1, z⟩
    · cases z; exact .inl ⟨h1.symm, rfl, by simpa using h2⟩
    · rcases set_get z with ⟨h2, z, _⟩ | ⟨h2, z⟩
      · cases z; exact .inr (.inl ⟨Ne.symm h1, h2.symm, rfl⟩)
      · exact .inr (.inr ⟨Ne.symm h1, Ne.symm h2, z⟩)
  refine ⟨s.gr, by simp [s.len], fun l d z => ?_, fun l => if l = j then Fs i else if l = i then nil else Fs l, fun l r1 z => ?_, fun l l' r1 r2 a o n z1 z2 z => ?_⟩
  · rcases set_get z with ⟨_, z, _⟩ | ⟨h1, z⟩
    · cases z
    · rcases set_get z with ⟨_, z, _⟩ | ⟨h2, z⟩
      · cases z
      · rw [List.getElem?_set_ne h1]
        exact s.va l d z
  · rcases old z with ⟨rfl, rfl, hl⟩ | ⟨h1, rfl, rfl⟩ | ⟨h1, h2, z⟩
    · simp only [if_true]
      exact ⟨w, by rw [List.getElem?_set_self (by rw [s.len]; exact hl)], a2, a3, a4⟩
    · simp only [if_neg h1, if_true]
      exact ⟨v0, by rw [List.getElem?_set_ne (Ne.symm h1)]; exact a1, ⟨rfl, rfl⟩, (fun _ _ z => nomatch z), (fun _ _ z => nomatch z)⟩
    · simp only [if_neg h1, if_neg h2]
      rw [List.getElem?_set_ne (Ne.symm h1)]
      exact f.wh l r1 z
  · rcases old z1 with ⟨rfl, rfl, _⟩ | ⟨h1, rfl, rfl⟩ | ⟨h1, h2, y1⟩
    · simp only [if_true] at z
      rcases old z2 with ⟨rfl, _, _⟩ | ⟨k1, rfl, rfl⟩ | ⟨k1, k2, z2⟩
      · exact absurd rfl n
      · simp only [if_neg k1, if_true]; rfl
      · simp only [if_neg k1, if_neg k2]
        exact f.ap i l' _ _ a o (Ne.symm k2) e z2 z
    · simp only [if_neg h1, if_true] at z
      cases z
    · simp only [if_neg h1, if_neg h2] at z
      rcases old z2 with ⟨rfl, rfl, _⟩ | ⟨k1, rfl, rfl⟩ | ⟨k1, k2, z2⟩
      · simp only [if_true]
        exact f.ap l i _ _ a o h2 y1 e z
      · simp only [if_neg k1, if_true]; rfl
      · simp only [if_neg k1, if_neg k2]
        exact f.ap l l' _ _ a o n y1 z2 z
/-- and back -/
theorem Sts.unmove {i j : Nat} {q : Rs} {v w : V} (s : Sts p G0 H0 env σ G H) (ei : env[i]? = some (.rs (rv v))) (ej : env[j]? = some (.rs q)) (hq : ∀ {G x F}, q.R p G x F → x = w) (hij : i ≠ j) : Sts p G0 H0 ((env.set j .fr).set i (.rs (hold v w q))) σ G H := by
  obtain ⟨Fs, f⟩ := s.rs
  obtain ⟨v0, a1, ⟨rfl, _⟩, _, _⟩ := f.wh i _ ei
  obtain ⟨w0, b1, b2, b3, b4⟩ := f.wh j _ ej
  cases hq b2
  have old : ∀ {l : Nat} {r1 : Rs}, ((env.set j .fr).set i (.rs (hold v0 w q)))[l]? = some (.rs r1) → (l = i ∧ r1 = hold v0 w q) ∨ (l ≠ i ∧ l ≠ j ∧ env[l]? = some (.rs r1)) := fun {l r1} z => by
    rcases set_get z with ⟨h1, z, _⟩ | ⟨h1, z⟩
    · cases z; exact .inl ⟨h1.symm, rfl⟩
    · rcases set_get z with ⟨h2, z, _⟩ | ⟨h2, z⟩
      · cases z
      · exact .inr ⟨Ne.symm h1, Ne.symm h2, z⟩
  refine ⟨s.gr, by simp [s.len], fun l d z => ?_, fun l => if l = i then Fs j else Fs l, fun l r1 z => ?_, fun l l' r1 r2 a o n z1 z2 z => ?_⟩
  · rcases set_get z with ⟨_, z, _⟩ | ⟨h1, z⟩
    · cases z
    · rcases set_get z with ⟨_, z, _⟩ | ⟨h2, z⟩
      · cases z
      · exact s.va l d z
  · rcases old z with ⟨rfl, rfl⟩ | ⟨h1, h2, z⟩
    · simp only [if_true]
      exact ⟨v0, a1, ⟨rfl, b2⟩, b3, b4⟩
    · simp only [if_neg h1]
      exact f.wh l r1 z
  · rcases old z1 with ⟨rfl, rfl⟩ | ⟨h1, h2, y1⟩
    · simp only [if_true] at z
      rcases old z2 with ⟨rfl, rfl⟩ | ⟨k1, k2, z2⟩
      · exact absurd rfl n
      · simp only [if_neg k1]
        exact f.ap j l' _ _ a o (Ne.symm k2) ej z2 z
    · simp only [if_neg h1] at z
      rcases old z2 with ⟨rfl, rfl⟩ | ⟨k1, k2, z2⟩
      · simp only [if_true]
        exact f.ap l j _ _ a o h2 y1 ej z
      · simp only [if_neg k1]
        exact f.ap l l' _ _ a o n y1 z2 z
end
end PU

set_option Elab.async false
set_option maxRecDepth 100000
set_option linter.all false
/-! PU24: walks that change the items of a list at a place within what is one's own. -/
namespace PU
open PySem L2
open Enc
def mapO {γ : Type} (f : γ → Option γ) : List γ → Option (List γ)
  | [] => some []
  | c :: cs => (f c).bind fun y => (mapO f cs).bind fun ys => some (y :: ys)
theorem leE_fr : ∀ (env : List Sl) (j : Nat), leE env (env.set j .fr)
  | [], _ => trivial
  | x :: xs, 0 => ⟨.inl rfl, leE.refl⟩
  | x :: xs, j + 1 => ⟨.inr rfl, leE_fr xs j⟩
theorem upd_un {A B : Hp} {a : Addr} {o : HO} : un (upd A a o) B = upd (un A B) a o := by
  funext b
  unfold un
  by_cases c : b = a
  · subst c
    rw [upd_same, upd_same]
  · rw [upd_ne c, upd_ne c]
theorem set3 {env : List Sl} {i j : Nat} {a b c : Sl} (h : i ≠ j) : ((env.set i a).set j b).set i c = (env.set i c).set j b := by
  rw [List.set_comm _ _ h, List.set_set, List.set_comm _ _ (Ne.symm h)]
theorem set6 {env : List Sl} {i j j2 : Nat} {a b b2 c : Sl} (h : i ≠ j) (h2 : i ≠ j2) : (((env.set i a).set j b).set j2 b2).set i c = ((env.set i c).set j b).set j2 b2 := by
  rw [List.set_comm _ _ (Ne.symm h2), set3 h]
theorem set4 {env : List Sl} {i j j2 : Nat} {a b b2 c d e : Sl} (h : i ≠ j) (h2 : i ≠ j2) (h3 : j ≠ j2) : (((((env.set i a).set j b).set j2 b2).set i c).set j d).set j2 e = ((env.set i c).set j d).set j2 e := by
  rw [set6 h h2]
  rw [List.set_comm _ _ (Ne.symm h3), List.set_set, List.set_set]
theorem set5 {env : List Sl} {i j j2 : Nat} {a b b2 c d : Sl} (h : i ≠ j) (h2 : i ≠ j2) (h3 : j ≠ j2) : ((((env.set i a).set j b).set j2 b2).set j c).set i d = ((env.set i d).set j c).set j2 b2 := by
  rw [List.set_comm _ _ (Ne.symm h3), List.set_set]
  exact set6 h h2
section
variable {p : Pm} {env : List Sl} {te : TE} {t : TS} {w : D → Rs} [Dl w] {α β γ : Type} [Enc α] [Enc β] [Enc γ] {i j : Nat} {x : α}
/-- for y in (the place): y is changed -/
theorem k_forI {g : Option (List γ)} {put : List γ → Option α} {f : γ → Option γ} (h : env[i]? = some (.rs (w (enc x)))) (L : Lens p env te i x g put) (hij : i ≠ j) (hj4 : j < env.length) (hl : ∀ c : γ, ∃ ds, enc c = .lst ds)
    (hb : ∀ v b c, Bk p t ((env.set i (.rs (rv v))).set j (.rs (dnAt b (enc c)))) (f c) (pN p fun c' => (env.set i (.rs (rv v))).set j (.rs (dnAt b (enc c'))))) :
    Bk p (tFor (iList p.K te) (gName j) t) env (g.bind fun l => (mapO f l).bind put) (pN p fun x' => (env.set i (.rs (w (enc x')))).set j .fr) := fun x' e G0 H0 σ G H st D q => by
  obtain ⟨l, e1, e⟩ := bind_some e
  obtain ⟨l', e2, e3⟩ := bind_some e
  have hi : i < env.length := (List.getElem?_eq_some_iff.mp h).1
  obtain ⟨v, F, a1, a2, a3, a4, mk⟩ := st.lend h
  obtain ⟨u, Fe, Fr, q1, ⟨a, xs, F', rfl, d1, d2, rfl⟩, q3, eF, q4⟩ := L.run st.ints a1 (Dl.of a2) a3 e1
  have sFr : Same Fr F := by rw [eF]; exact same_un2 q3
  have hH : H a = some (.lst xs) := a3 _ _ (by rw [eF]; exact same_un1 _ _ upd_same)
  have st0 := mk _ Fr (hold v (.ref a) (dn (enc l))) eF q3 ⟨rfl, a, xs, F', rfl, d1, d2, rfl⟩
  have bG : ∀ b o, Fr b = some o → G0 b = none := fun b o z => st.gr.g.free (a4 b o (sFr b o z)).1
  have bH : Dj Fr H0 := fun b o z => (a4 b o (sFr b o z)).2
  refine q1 _ ⟨a, rfl, ⟨xs, .of hH⟩, fun i' m σ' H' => m = l.length - i' ∧ i' ≤ l.length ∧ ∃ done rest' G', done.length = i' ∧ mapO f (l.drop i') = some rest' ∧ done ++ rest' = l' ∧ Sts p G0 (un H0 Fr) ((env.set i (.rs (hold v (.ref a) (dn (.lst ((done ++ l.drop i').map enc)))))).set j .fr) σ' G' H' ∧ Same G G',
    ⟨_, rfl, Nat.zero_le _, [], l', G, rfl, e2, rfl, st0.le (leE_fr _ j), .refl _⟩, ?_⟩
  rintro i' m σ' H' ⟨rfl, hle, done, rest', G', dl, hf, hdone, s', sg⟩
  have ei : ((env.set i (.rs (hold v (.ref a) (dn (.lst ((done ++ l.drop i').map enc)))))).set j .fr)[i]? = some (.rs (hold v (.ref a) (dn (.lst ((done ++ l.drop i').map enc))))) := by
    rw [List.getElem?_set_ne (Ne.symm hij), List.getElem?_set_self hi]
  obtain ⟨v', F2, b1, ⟨hv, a', xs2, F3, ea, c1, c2, rfl⟩, b3, b4, mk2⟩ := s'.lend ei
  cases ea
  subst hv
  have hH2 : H' a = some (.lst xs2) := b3 _ _ upd_same
  have hs : SqL p.K H' a xs2 := .of hH2
  have ll := c1.length
  rw [List.length_map, List.length_append, List.length_drop, dl] at ll
  by_cases hlt : i' < l.length
  · have ed : ((done ++ l.drop i').map enc)[i']? = some (enc l[i']) := by
      rw [List.getElem?_map, List.getElem?_append_right (by omega), dl, Nat.sub_self, List.getElem?_drop, Nat.add_zero, List.getElem?_eq_getElem hlt]; rfl
    obtain ⟨u, Fj, Fo, z1, z2, z3, rfl, z4⟩ := DnA.split c1 ed
    obtain ⟨dc, hdc⟩ := hl l[i']
    have z2' := z2
    rw [hdc] at z2'
    obtain ⟨b, ys, Fb, rfl, y1, y2, y3⟩ := z2'
    have na := un_none.mp c2
    rw [List.drop_eq_getElem_cons hlt] at hf
    obtain ⟨y, hy, hf⟩ := bind_some hf
    obtain ⟨rest2, hr, hf⟩ := bind_some hf
    cases hf
    have eFB : upd (un Fj Fo) a (.lst xs2) = un Fj (upd Fo a (.lst xs2)) := un_upd na.1
    have djB : Dj Fj (upd Fo a (.lst xs2)) := fun k o z => by
      by_cases ck : k = a
      · subst ck; rw [na.1] at z; cases z
      · rw [upd_ne ck]; exact z3 k o z
    have st2 := mk2 Fj (upd Fo a (.lst xs2)) (hold v' (.ref b) (dnAt b (enc l[i']))) eFB djB ⟨rfl, rfl, z2⟩
    have bG2 : ∀ k o, upd Fo a (.lst xs2) k = some o → G0 k = none := fun k o z => s'.gr.g.free (b4 k o (by rw [eFB]; exact same_un2 djB k o z)).1
    have bH2 : Dj (upd Fo a (.lst xs2)) (un H0 Fr) := fun k o z => (b4 k o (by rw [eFB]; exact same_un2 djB k o z)).2
    refine .inr ⟨⟨xs2, .ref b, hs, z1⟩, fun σ2 H2 => ∃ done rest' G', done.length = i' + 1 ∧ mapO f (l.drop (i' + 1)) = some rest' ∧ done ++ rest' = l' ∧ Sts p G0 (un H0 Fr) ((env.set i (.rs (hold v' (.ref a) (dn (.lst ((done ++ l.drop (i' + 1)).map enc)))))).set j .fr) σ2 G' H2 ∧ Same G G',
      fun σ2 H2 z => ⟨l.length - (i' + 1), by omega, rfl, hlt, z⟩, fun x0 H2 yv => ?_⟩
    obtain ⟨rfl, yv⟩ := yv
    have yv := yv xs2 hs
    rw [z1] at yv; cases yv
    have hi2 : i < ((env.set i (.rs (hold v' (.ref a) (dn (.lst ((done ++ l.drop i').map enc)))))).set j .fr).length := by simpa using hi
    have st3 := st2.move (by rw [List.getElem?_set_self hi2]) hij
    rw [List.set_set, set3 hij, List.set_set] at st3
    refine hb v' b l[i'] y hy G0 _ _ G' H2 st3 _ fun σ4 G4 H4 s4 sg4 => ?_
    have hi4 : i < env.length := hi
    have e4i : ((env.set i (.rs (rv v'))).set j (.rs (dnAt b (enc y))))[i]? = some (.rs (rv v')) := by rw [List.getElem?_set_ne (Ne.symm hij), List.getElem?_set_self hi]
    have s5 := s4.unmove (q := dnAt b (enc y)) (w := .ref b) e4i (by rw [List.getElem?_set_self (by simpa using hj4)]) (fun z => z.1) hij
    rw [List.set_set] at s5
    have e5 : (((env.set i (.rs (rv v'))).set j .fr).set i (.rs (hold v' (.ref b) (dnAt b (enc y)))))[i]? = some (.rs (hold v' (.ref b) (dnAt b (enc y)))) := by rw [List.getElem?_set_self (by simpa using hi)]
    have s6 := s5.back (r := hold v' (.ref a) (dn (.lst (((done ++ [y]) ++ l.drop (i' + 1)).map enc)))) e5 bG2 bH2 fun v0 A k1 k2 k3 k4 => by
      obtain ⟨rfl, _, k2⟩ := k2
      have Aa : A a = none := by
        cases zz : A a with
        | none => rfl
        | some o => have := k3 a o zz; rw [upd_same] at this; cases this
      have AFo : Dj A Fo := fun k o zz => by
        by_cases ck : k = a
        · subst ck; rw [Aa] at zz; cases zz
        · have := k3 k o zz; rw [upd_ne ck] at this; exact this
      have n1 := z4 G4 (enc y) A sg4 k2 AFo
      have es : ((done ++ l.drop i').map enc).set i' (enc y) = ((done ++ [y]) ++ l.drop (i' + 1)).map enc := by
        rw [List.drop_eq_getElem_cons hlt, List.map_append, List.set_append_right _ _ (by rw [List.length_map]; omega), List.length_map, dl, Nat.sub_self, List.map_cons, List.set_cons_zero, List.append_assoc, List.map_append]
        rfl
      rw [es] at n1
      exact ⟨rfl, a, xs2, un A Fo, rfl, n1, un_none.mpr ⟨Aa, na.2⟩, (un_upd Aa).symm⟩
    rw [List.set_set, set3 hij] at s6
    exact ⟨done ++ [y], rest2, G4, by simp [dl], hr, by rw [← hdone]; simp, s6, sg.trans sg4⟩
  · have ei' : i' = l.length := by omega
    subst ei'
    rw [List.drop_length] at hf
    cases hf
    rw [List.append_nil] at hdone
    subst hdone
    refine .inl ⟨⟨xs2, hs, by omega⟩, ?_⟩
    have s6 := s'.back (r := w (enc x')) ei bG bH fun v0 A k1 k2 k3 k4 => by
      obtain ⟨rfl, k2⟩ := k2
      rw [List.drop_length, List.append_nil] at k2
      exact Dl.back a2 (q4 G' done x' A sg e3 k2 k3)
    rw [set3 hij] at s6
    exact q σ' G' H' s6 sg
/-- for y, k in (the place): y is changed -/
theorem k_forT {j2 : Nat} [Scal β] {g : Option (List (γ × β))} {put : List (γ × β) → Option α} {f : γ → Option γ} (h : env[i]? = some (.rs (w (enc x)))) (L : Lens p env te i x g put) (hij : i ≠ j) (hj4 : j < env.length) (hij2 : i ≠ j2) (hjj2 : j ≠ j2) (hl : ∀ c : γ, ∃ ds, enc c = .lst ds)
    (hb : ∀ v b c (m : β), Bk p t (((env.set i (.rs (rv v))).set j (.rs (dnAt b (enc c)))).set j2 (.va (enc m))) (f c) (pN p fun c' => ((env.set i (.rs (rv v))).set j (.rs (dnAt b (enc c')))).set j2 .fr)) :
    Bk p (tFor (iList p.K te) (gTup p.K 2 (gCons (gName j) (gCons (gName j2) gNil))) t) env (g.bind fun l => (mapO (fun q : γ × β => (f q.1).bind fun c => some (c, q.2)) l).bind put) (pN p fun x' => ((env.set i (.rs (w (enc x')))).set j .fr).set j2 .fr) := fun x' e G0 H0 σ G H st D q => by
  obtain ⟨l, e1, e⟩ := bind_some e
  obtain ⟨l', e2, e3⟩ := bind_some e
  have hi : i < env.length := (List.getElem?_eq_some_iff.mp h).1
  obtain ⟨v, F, a1, a2, a3, a4, mk⟩ := st.lend h
  obtain ⟨u, Fe, Fr, q1, ⟨a, xs, F', rfl, d1, d2, rfl⟩, q3, eF, q4⟩ := L.run st.ints a1 (Dl.of a2) a3 e1
  have sFr : Same Fr F := by rw [eF]; exact same_un2 q3
  have hH : H a = some (.lst xs) := a3 _ _ (by rw [eF]; exact same_un1 _ _ upd_same)
  have st0 := mk _ Fr (hold v (.ref a) (dn (enc l))) eF q3 ⟨rfl, a, xs, F', rfl, d1, d2, rfl⟩
  have bG : ∀ b o, Fr b = some o → G0 b = none := fun b o z => st.gr.g.free (a4 b o (sFr b o z)).1
  have bH : Dj Fr H0 := fun b o z => (a4 b o (sFr b o z)).2
  refine q1 _ ⟨a, rfl, ⟨xs, .of hH⟩, fun i' m σ' H' => m = l.length - i' ∧ i' ≤ l.length ∧ ∃ done rest' G', done.length = i' ∧ mapO (fun q : γ × β => (f q.1).bind fun c => some (c, q.2)) (l.drop i') = some rest' ∧ done ++ rest' = l' ∧ Sts p G0 (un H0 Fr) (((env.set i (.rs (hold v (.ref a) (dn (.lst ((done ++ l.drop i').map enc)))))).set j .fr).set j2 .fr) σ' G' H' ∧ Same G G',
    ⟨_, rfl, Nat.zero_le _, [], l', G, rfl, e2, rfl, (st0.le (leE_fr _ j)).le (leE_fr _ j2), .refl _⟩, ?_⟩
  rintro i' m σ' H' ⟨rfl, hle, done, rest', G', dl, hf, hdone, s', sg⟩
  have ei : (((env.set i (.rs (hold v (.ref a) (dn (.lst ((done ++ l.drop i').map enc)))))).set j .fr).set j2 .fr)[i]? = some (.rs (hold v (.ref a) (dn (.lst ((done ++ l.drop i').map enc))))) := by
    rw [List.getElem?_set_ne (Ne.symm hij2), List.getElem?_set_ne (Ne.symm hij), List.getElem?_set_self hi]
  obtain ⟨v', F2, b1, ⟨hv, a', xs2, F3, ea, c1, c2, rfl⟩, b3, b4, mk2⟩ := s'.lend ei
  cases ea
  subst hv
  have hH2 : H' a = some (.lst xs2) := b3 _ _ upd_same
  have hs : SqL p.K H' a xs2 := .of hH2
  have ll := c1.length
  rw [List.length_map, List.length_append, List.length_drop, dl] at ll
  by_cases hlt : i' < l.length
  · have ed : ((done ++ l.drop i').map enc)[i']? = some (enc l[i']) := by
      rw [List.getElem?_map, List.getElem?_append_right (by omega), dl, Nat.sub_self, List.getElem?_drop, Nat.add_zero, List.getElem?_eq_getElem hlt]; rfl
    obtain ⟨u, Fj, Fo, z1, z2, z3, rfl, z4⟩ := DnA.split c1 ed
    have ni : ∀ c : γ, immA [enc c, enc l[i'].2] = false := fun c => by
      obtain ⟨dc, hdc⟩ := hl c
      show (imm (enc c) && _) = false
      rw [hdc]; rfl
    rcases z2 with ⟨h0, _⟩ | ⟨_, tt, ys, Fc, rfl, dA, tn, rfl⟩
    · rw [ni l[i'].1] at h0; cases h0
    obtain ⟨v1, vs1, Fb, F5, rfl, y1, ⟨v2, vs2, Fm, F6, rfl, y2, ⟨rfl, rfl⟩, _, rfl⟩, _, rfl⟩ := dA
    obtain ⟨y2r, rfl⟩ := Dn.imm_rp _ (Scal.im l[i'].2) y2
    rw [un_nil, un_nil] at *
    obtain ⟨dc, hdc⟩ := hl l[i'].1
    have y1' := y1
    rw [hdc] at y1'
    obtain ⟨b, ys, Fb', rfl, _⟩ := y1'
    have na := un_none.mp c2
    rw [List.drop_eq_getElem_cons hlt] at hf
    obtain ⟨yy, hy, hf⟩ := bind_some hf
    obtain ⟨y, hy2, hyy⟩ := bind_some hy
    cases hyy
    obtain ⟨rest2, hr, hf⟩ := bind_some hf
    cases hf
    have nt := z3 tt _ upd_same
    have ta : tt ≠ a := fun c => by rw [c] at na; rw [upd_same] at na; cases na.1
    have Fba : Fb a = none := by have := na.1; rw [upd_ne (Ne.symm ta)] at this; exact this
    have nFo : upd Fo tt (.tup [.ref b, v2]) a = none := by rw [upd_ne (Ne.symm ta)]; exact na.2
    have eFB : upd (un (upd Fb tt (.tup [.ref b, v2])) Fo) a (.lst xs2) = un Fb (upd (upd Fo tt (.tup [.ref b, v2])) a (.lst xs2)) := by
      rw [upd_un, un_upd tn, un_upd Fba]
    have djB : Dj Fb (upd (upd Fo tt (.tup [.ref b, v2])) a (.lst xs2)) := fun k o z => by
      by_cases ck : k = a
      · subst ck; rw [Fba] at z; cases z
      · rw [upd_ne ck]
        by_cases ct : k = tt
        · subst ct; rw [tn] at z; cases z
        · rw [upd_ne ct]
          exact z3 k o (by rw [upd_ne ct]; exact z)
    have st2 := mk2 Fb (upd (upd Fo tt (.tup [.ref b, v2])) a (.lst xs2)) (hold v' (.ref b) (dnAt b (enc l[i'].1))) eFB djB ⟨rfl, rfl, y1⟩
    have bG2 : ∀ k o, upd (upd Fo tt (.tup [.ref b, v2])) a (.lst xs2) k = some o → G0 k = none := fun k o z => s'.gr.g.free (b4 k o (by rw [eFB]; exact same_un2 djB k o z)).1
    have bH2 : Dj (upd (upd Fo tt (.tup [.ref b, v2])) a (.lst xs2)) (un H0 Fr) := fun k o z => (b4 k o (by rw [eFB]; exact same_un2 djB k o z)).2
    refine .inr ⟨⟨xs2, .ref tt, hs, z1⟩, fun σ2 H2 => ∃ done rest' G', done.length = i' + 1 ∧ mapO (fun q : γ × β => (f q.1).bind fun c => some (c, q.2)) (l.drop (i' + 1)) = some rest' ∧ done ++ rest' = l' ∧ Sts p G0 (un H0 Fr) (((env.set i (.rs (hold v' (.ref a) (dn (.lst ((done ++ l.drop (i' + 1)).map enc)))))).set j .fr).set j2 .fr) σ2 G' H2 ∧ Same G G',
      fun σ2 H2 z => ⟨l.length - (i' + 1), by omega, rfl, hlt, z⟩, fun x0 H2 yv => ?_⟩
    obtain ⟨rfl, yv⟩ := yv
    have yv := yv xs2 hs
    rw [z1] at yv; cases yv
    have hi2 : i < (((env.set i (.rs (hold v' (.ref a) (dn (.lst ((done ++ l.drop i').map enc)))))).set j .fr).set j2 .fr).length := by simpa using hi
    have hT : H2 tt = some (.tup [.ref b, v2]) := b3 _ _ (by rw [upd_ne ta, upd_un]; exact upd_same)
    refine ⟨tt, _, rfl, .of hT, rfl, .ref b, _, rfl, v2, _, rfl, rfl, ?_⟩
    have st3 := st2.move (by rw [List.getElem?_set_self hi2]) hij
    have st3 := st3.set_va (i := j2) (d := enc l[i'].2) (v := v2) y2r
    rw [List.set_set, set4 hij hij2 hjj2] at st3
    refine hb v' b l[i'].1 l[i'].2 y hy2 G0 _ _ G' H2 st3 _ fun σ4 G4 H4 s4 sg4 => ?_
    have hi4 : i < env.length := hi
    have e4i : (((env.set i (.rs (rv v'))).set j (.rs (dnAt b (enc y)))).set j2 .fr)[i]? = some (.rs (rv v')) := by rw [List.getElem?_set_ne (Ne.symm hij2), List.getElem?_set_ne (Ne.symm hij), List.getElem?_set_self hi]
    have s5 := s4.unmove (q := dnAt b (enc y)) (w := .ref b) e4i (by rw [List.getElem?_set_ne (Ne.symm hjj2), List.getElem?_set_self (by simpa using hj4)]) (fun z => z.1) hij
    rw [set5 hij hij2 hjj2] at s5
    have e5 : (((env.set i (.rs (hold v' (.ref b) (dnAt b (enc y))))).set j .fr).set j2 .fr)[i]? = some (.rs (hold v' (.ref b) (dnAt b (enc y)))) := by rw [List.getElem?_set_ne (Ne.symm hij2), List.getElem?_set_ne (Ne.symm hij), List.getElem?_set_self hi]
    have s6 := s5.back (r := hold v' (.ref a) (dn (.lst (((done ++ [(y, l[i'].2)]) ++ l.drop (i' + 1)).map enc)))) e5 bG2 bH2 fun v0 A k1 k2 k3 k4 => by
      obtain ⟨rfl, _, k2⟩ := k2
      have Aa : A a = none := by
        cases zz : A a with
        | none => rfl
        | some o => have := k3 a o zz; rw [upd_same] at this; cases this
      have At : A tt = none := by
        cases zz : A tt with
        | none => rfl
        | some o => have := k3 tt o zz; rw [upd_ne ta, upd_same] at this; cases this
      have AFo : Dj A Fo := fun k o zz => by
        by_cases ck : k = a
        · subst ck; rw [Aa] at zz; cases zz
        · by_cases ct : k = tt
          · subst ct; rw [At] at zz; cases zz
          · have := k3 k o zz; rw [upd_ne ck, upd_ne ct] at this; exact this
      have nT : Dn p G4 (enc (y, l[i'].2)) (.ref tt) (upd A tt (.tup [.ref b, v2])) := .inr ⟨ni y, tt, _, A, rfl, ⟨.ref b, [v2], A, nil, rfl, k2, ⟨v2, [], nil, nil, rfl, Dn.of_imm _ (Scal.im _) (Rp.mono sg4 _ y2r), ⟨rfl, rfl⟩, dj_nil, (nil_un nil).symm⟩, dj_nil', (un_nil A).symm⟩, At, rfl⟩
      have ATo : Dj (upd A tt (.tup [.ref b, v2])) Fo := fun k o zz => by
        by_cases ct : k = tt
        · subst ct; exact nt
        · rw [upd_ne ct] at zz; exact AFo k o zz
      have n1 := z4 G4 (enc (y, l[i'].2)) _ sg4 nT ATo
      have es : ((done ++ l.drop i').map enc).set i' (enc (y, l[i'].2)) = ((done ++ [(y, l[i'].2)]) ++ l.drop (i' + 1)).map enc := by
        rw [List.drop_eq_getElem_cons hlt, List.map_append, List.set_append_right _ _ (by rw [List.length_map]; omega), List.length_map, dl, Nat.sub_self, List.map_cons, List.set_cons_zero, List.append_assoc, List.map_append]
        rfl
      rw [es] at n1
      refine ⟨rfl, a, xs2, un (upd A tt (.tup [.ref b, v2])) Fo, rfl, n1, un_none.mpr ⟨by rw [upd_ne (Ne.symm ta)]; exact Aa, na.2⟩, ?_⟩
      rw [upd_un, un_upd At, un_upd Aa]
    rw [set6 hij hij2] at s6
    exact ⟨done ++ [(y, l[i'].2)], rest2, G4, by simp [dl], hr, by rw [← hdone]; simp, s6, sg.trans sg4⟩
  · have ei' : i' = l.length := by omega
    subst ei'
    rw [List.drop_length] at hf
    cases hf
    rw [List.append_nil] at hdone
    subst hdone
    refine .inl ⟨⟨xs2, hs, by omega⟩, ?_⟩
    have s6 := s'.back (r := w (enc x')) ei bG bH fun v0 A k1 k2 k3 k4 => by
      obtain ⟨rfl, k2⟩ := k2
      rw [List.drop_length, List.append_nil] at k2
      exact Dl.back a2 (q4 G' done x' A sg e3 k2 k3)
    rw [set6 hij hij2] at s6
    exact q σ' G' H' s6 sg
end
end PU

set_option Elab.async false
set_option maxRecDepth 100000
set_option linter.all false
/-! PU25: extend at a place; extend by what is shared, all of it known from then on. -/
namespace PU
open PySem L2
open Enc
/-- known once it is frozen -/
def fzr (d : D) : Rs := ⟨fun p G v F => ∀ G', Same G G' → Dj F G' → Rp p (un G' F) d v, fun e h G' s => h G' (e.trans s)⟩
section
variable {p : Pm} {env : List Sl} {σ : St} {G0 H0 G H : Hp}
theorem Sts.fz {i : Nat} {d : D} (s : Sts p G0 H0 env σ G H) (e : env[i]? = some (.rs (fzr d))) : ∃ G', Same G G' ∧ Sts p G0 H0 (env.set i (.va d)) σ G' H := by
  obtain ⟨Fs, f⟩ := s.rs
  obtain ⟨v, a1, a2, a3, a4⟩ := f.wh i _ e
  have dj : Dj (Fs i) G := fun a o h => (a4 a o h).1
  have sg : Same G (un G (Fs i)) := same_un1
  refine ⟨un G (Fs i), sg, ⟨s.gr.g.trans sg, un_same s.gr.s a3, s.gr.h, fun a o h k => ?_⟩, by simp [s.len], fun j d' q => ?_, Fs, fun j r' q => ?_, fun j k r1 r2 a o n q q' => ?_⟩
  · rcases un_some h with h | h
    · exact s.gr.n a o h k
    · exact (a4 a o h).2
  · rcases set_get q with ⟨rfl, q, hi⟩ | ⟨hj, q⟩
    · cases q
      exact ⟨v, a1, a2 G (.refl _) dj⟩
    · exact (s.va j d' q).imp fun v h => ⟨h.1, Rp.mono sg _ h.2⟩
  · rcases set_get q with ⟨rfl, q, hi⟩ | ⟨hj, q⟩
    · cases q
    · obtain ⟨v', b1, b2, b3, b4⟩ := f.wh j r' q
      refine ⟨v', b1, r'.mono sg b2, b3, fun a o h => ⟨un_none.mpr ⟨(b4 a o h).1, f.ap j i _ _ a o (Ne.symm hj) q e h⟩, (b4 a o h).2⟩⟩
  · rcases set_get q with ⟨_, q, _⟩ | ⟨_, q⟩
    · cases q
    · rcases set_get q' with ⟨_, q', _⟩ | ⟨_, q'⟩
      · cases q'
      · exact f.ap j k r1 r2 a o n q q'
end
section
variable {p : Pm} {env : List Sl} {te ta : TE} {tz : TS} {w : D → Rs} [Dl w] {α β γ ρ : Type} [Enc α] [Enc β] [Enc γ] {Po : Post ρ} {i : Nat} {x : α}
/-- (the place).extend(e), the items unchangeable -/
theorem k_extL [Imm γ] {g : Option (List γ)} {put : List γ → Option α} {me : Option (List γ)} {rest : α → Option ρ} (h : env[i]? = some (.rs (w (enc x)))) (L : Lens p env te i x g put) (he : Ev p false ta env me) (k : ∀ x', Bk p tz (env.set i (.rs (w (enc x')))) (rest x') Po) :
    Bk p (tSeq (tDrop (tBM p.K "list" rExtend te (tCons ta tNil))) tz) env (g.bind fun l => me.bind fun e => (cat? l e).bind fun l' => (put l').bind rest) Po := fun r e G0 H0 σ G H st D q => by
  obtain ⟨l, e1, f1⟩ := bind_some e
  obtain ⟨y, e2, f2⟩ := bind_some f1
  obtain ⟨l', e3, f3⟩ := bind_some f2
  obtain ⟨x', e4, f4⟩ := bind_some f3
  obtain ⟨a, xs, F', q1, q2, q3, q4, q5, q6⟩ := st.lensW h L e1
  unfold cat? at e3
  split at e3
  · rename_i hl
    cases e3
    refine q1 _ ⟨.inl ⟨rfl, _, .of q2⟩, ?_⟩
    refine he y e2 G0 H0 σ G H st _ fun v G1 H1 g1 r1 => ?_
    obtain ⟨b, zs, rfl, r2, r3⟩ := r1
    have ll := DnA.len q3
    rw [List.length_map] at ll
    have lz := r3.length
    rw [List.length_map] at lz
    refine ⟨a, b, xs, zs, rfl, rfl, g1.h _ _ q2, g1.s _ _ r2, Nat.le_trans (show xs.length + zs.length ≤ 100000 by omega) (by decide), ?_⟩
    have n1 : DnA p G1 ((l ++ y).map enc) (xs ++ zs) (un F' nil) := by
      rw [List.map_append]
      exact DnA.append (DnA.mono g1.g _ q3) (DnA.of_imm (immA_map y) r3) dj_nil'
    rw [un_nil] at n1
    exact k x' r f4 G0 H0 σ G1 _ (q6 G1 H1 nil _ x' _ F' g1 (fun b o z => by cases z) (fun b o z => by cases z) e4 n1 fun b o z => .inl z) D (Po.mono g1.g q)
  · cases e3
/-- x.f1.extend(e), f1 the last of two fields; x is not changed any more -/
theorem k_extF1 {get : α → Option (List γ)} {rep : α → List γ → Option α} {f0 f1 : Str} {me : Option (List γ)} {rest : α → Option ρ} (h : env[i]? = some (.rs (w (enc x)))) (hne : (f1 == f0) = false)
    (hb : ∀ b c, get b = some c → ∃ cl d0, enc b = .ins cl [(f0, d0), (f1, enc c)] ∧ Cls p.K (p.cl cl) ∧ NoAttr p.K (p.cl cl) f1 ∧ ∀ c' b', rep b c' = some b' → enc b' = .ins cl [(f0, d0), (f1, enc c')]) (he : Ev p false ta env me)
    (k : ∀ x', Bk p tz (env.set i (.va (enc x'))) (rest x') Po) :
    Bk p (tSeq (tDrop (tBM p.K "list" rExtend (tFld p.K (tVar i) f1) (tCons ta tNil))) tz) env ((get x).bind fun l => me.bind fun e => (cat? l e).bind fun l' => (rep x l').bind rest) Po := fun r e G0 H0 σ G H st D q => by
  obtain ⟨l, e1, g1⟩ := bind_some e
  obtain ⟨y, e2, g2⟩ := bind_some g1
  obtain ⟨l', e3, g3⟩ := bind_some g2
  obtain ⟨x', e4, g4⟩ := bind_some g3
  unfold cat? at e3
  split at e3
  · rename_i hl
    cases e3
    obtain ⟨cl, d0, eb, c1, c2, c3⟩ := hb x l e1
    have ex' := c3 _ _ e4
    obtain ⟨v, F, a1, a2, a3, wr⟩ := st.writeL h
    have dn1 := Dl.of a2
    rw [eb] at dn1
    obtain ⟨a, dx, fs, F', rfl, ⟨w0, vs, F0, F2, rfl, z0, ⟨w1, vs2, Fl, Fn, rfl, z2, ⟨rfl, rfl⟩, _, rfl⟩, z3, rfl⟩, d2, rfl⟩ := dn1
    rw [un_nil] at *
    obtain ⟨b, xs, F3, rfl, y1, y2, rfl⟩ := z2
    have na := un_none.mp d2
    have hHa : H a = some (.ins (p.cl cl) dx [(f0, w0), (f1, .ref b)]) := a3 _ _ upd_same
    have ab : a ≠ b := fun c => by subst c; have := na.2; rw [upd_same] at this; cases this
    have hHb : H b = some (.lst xs) := a3 _ _ (by rw [upd_ne (Ne.symm ab)]; exact same_un2 z3 _ _ upd_same)
    have F0b : F0 b = none := by
      cases zz : F0 b with
      | none => rfl
      | some o => have := z3 b o zz; rw [upd_same] at this; cases this
    refine ⟨.ref a, a1, a, _, dx, _, .ref b, rfl, hHa, c1, c2, (lk1 hne).trans lk0, .inl ⟨rfl, _, .of hHb⟩, ?_⟩
    refine he y e2 G0 H0 σ G H st _ fun u G1 H1 g r1 => ?_
    obtain ⟨b', zs, rfl, r2, r3⟩ := r1
    have ll := y1.length
    rw [List.length_map] at ll
    have lz := r3.length
    rw [List.length_map] at lz
    refine ⟨b, b', xs, zs, rfl, rfl, g.h _ _ hHb, g.s _ _ r2, Nat.le_trans (show xs.length + zs.length ≤ 100000 by omega) (by decide), ?_⟩
    obtain ⟨w1, w2, w3⟩ := wr G1 H1 g
    have es : σ = σ.set i (some (.ref a)) := by
      obtain ⟨hi, hh⟩ := List.getElem?_eq_some_iff.mp a1
      rw [← hh, List.set_getElem_self]
    have sub0 : ∀ c o, un F0 (upd F3 b (.lst (xs ++ zs))) c = some o → c ≠ b → un F0 (upd F3 b (.lst xs)) c = some o := fun c o z n => by
      rcases un_some z with z | z
      · exact same_un1 _ _ z
      · rw [upd_ne n] at z
        exact same_un2 z3 _ _ (by rw [upd_ne n]; exact z)
    have na' : un F0 (upd F3 b (.lst (xs ++ zs))) a = none := un_none.mpr ⟨na.1, by have := na.2; rw [upd_ne ab] at this ⊢; exact this⟩
    have st2 := w3 (fzr (enc x')) (.ref a) (upd (un F0 (upd F3 b (.lst (xs ++ zs)))) a (.ins (p.cl cl) dx [(f0, w0), (f1, .ref b)])) (upd H1 b (.lst (xs ++ zs))) ⟨fun c o z => ?_, fun c q1 q2 => ?_, fun c o q1 q2 => ?_⟩ fun G' sg dj => ?_
    · rw [← es] at st2
      obtain ⟨G', sg, st3⟩ := st2.fz (by
        have hi := (List.getElem?_eq_some_iff.mp h).1
        rw [List.getElem?_set_self hi])
      rw [List.set_set] at st3
      exact k x' r g4 G0 H0 σ G' _ st3 D (Po.mono (g.g.trans sg) q)
    · by_cases ca : c = a
      · subst ca
        rw [upd_same] at z; cases z
        rw [upd_ne ab]; exact g.h _ _ hHa
      · rw [upd_ne ca] at z
        by_cases cb : c = b
        · subst cb
          rcases un_some z with z | z
          · rw [F0b] at z; cases z
          · rw [upd_same] at z ⊢; exact z
        · rw [upd_ne cb]
          exact g.h _ _ (a3 c o (by rw [upd_ne ca]; exact sub0 c o z cb))
    · have cb : c ≠ b := fun cb => by
        subst cb
        rw [upd_ne (Ne.symm ab)] at q1
        have := (un_none.mp q1).2
        rw [upd_same] at this; cases this
      rw [upd_ne cb]
    · exfalso
      have ca : c ≠ a := fun ca => by subst ca; rw [upd_same] at q2; cases q2
      rw [upd_ne ca] at q1 q2
      by_cases cb : c = b
      · subst cb
        have := (un_none.mp q2).2
        rw [upd_same] at this; cases this
      · rw [sub0 c o q1 cb] at q2; cases q2
    · -- all of it is known
      rw [ex']
      have sF : ∀ c o, c ≠ b → un F0 (upd F3 b (.lst xs)) c = some o → upd (un F0 (upd F3 b (.lst (xs ++ zs)))) a (.ins (p.cl cl) dx [(f0, w0), (f1, .ref b)]) c = some o := fun c o n z => by
        have ca : c ≠ a := fun ca => by subst ca; rw [d2] at z; cases z
        rw [upd_ne ca]
        rcases un_some z with z | z
        · exact same_un1 _ _ z
        · rw [upd_ne n] at z
          have : F0 c = none := by
            cases zz : F0 c with
            | none => rfl
            | some u =>
              have := z3 c u zz
              rw [upd_ne n, z] at this; cases this
          unfold un
          rw [this]
          show upd F3 b (.lst (xs ++ zs)) c = some o
          rw [upd_ne n]; exact z
      have sG : Same G1 (un G' (upd (un F0 (upd F3 b (.lst (xs ++ zs)))) a (.ins (p.cl cl) dx [(f0, w0), (f1, .ref b)]))) := sg.trans same_un1
      have dj' := dj.symm
      have dF0 : Dj F0 G1 := fun c o z => (w2 c o (by
        have ca : c ≠ a := fun ca => by subst ca; rw [na.1] at z; cases z
        rw [upd_ne ca]; exact same_un1 _ _ z)).1
      have dF3 : Dj F3 G1 := fun c o z => (w2 c o (by
        have cb : c ≠ b := fun cb => by subst cb; rw [y2] at z; cases z
        have ca : c ≠ a := fun ca => by subst ca; have := na.2; rw [upd_ne ab, z] at this; cases this
        rw [upd_ne ca]; exact same_un2 z3 _ _ (by rw [upd_ne cb]; exact z))).1
      have k0 : Same (un F0 G1) (un G' (upd (un F0 (upd F3 b (.lst (xs ++ zs)))) a (.ins (p.cl cl) dx [(f0, w0), (f1, .ref b)]))) := un_same (fun c o z => same_un2 dj' _ _ (sF c o (fun cb => by subst cb; rw [F0b] at z; cases z) (same_un1 _ _ z))) sG
      have k3 : Same (un F3 G1) (un G' (upd (un F0 (upd F3 b (.lst (xs ++ zs)))) a (.ins (p.cl cl) dx [(f0, w0), (f1, .ref b)]))) := un_same (fun c o z => by
        have cb : c ≠ b := fun cb => by subst cb; rw [y2] at z; cases z
        exact same_un2 dj' _ _ (sF c o cb (same_un2 z3 _ _ (by rw [upd_ne cb]; exact z)))) sG
      refine ⟨a, dx, _, rfl, same_un2 dj' _ _ upd_same, w0, _, rfl, Rp.mono k0 _ (Dn.rp _ dF0 (Dn.mono g.g _ z0)), .ref b, _, rfl, ⟨b, xs ++ zs, rfl, same_un2 dj' _ _ ?_, ?_⟩, rfl⟩
      · rw [upd_ne (Ne.symm ab)]
        unfold un
        rw [F0b]
        exact upd_same
      · rw [List.map_append]
        exact (RpA.mono k3 _ (DnA.rp _ dF3 (DnA.mono g.g _ y1))).append (RpA.mono sG _ r3)
  · cases e3
end
section
variable {X : Cx} {e : Expr} {es : List Expr} {t : TA}
theorem xe_extend (K) {apos cpos : Pos} {o : Expr} {to : TE} (ho : PE X o to) (ha : PA X (e :: es) t) (hbase : attributeBase o "extend" X.env (eval o X.env) = eval o X.env := by rfl)
    (hfew : ((backTo cpos (starEach (e :: es) X.env)).all (fun x => !x.1) && (backToKw cpos (keywordEach [] X.env)).all (fun x => x.1.isSome) && decide ((e :: es).length + ([] : List Keyword).length + (if ([] : List Keyword).isEmpty then 0 else 1) < 30)) = true := by rfl)
    (hline : (apos.endLine == cpos.line) = true := by rfl) (hs : starEach (e :: es) X.env = (false, eval e X.env) :: starEach es X.env := by rfl) (hplain : (backTo cpos (starEach es X.env)).any (·.1) = false := by rfl) (hK : X.K = K := by rfl) :
    PE X (.Call (.Attribute o "extend" apos) (e :: es) [] cpos) (tBM K "list" rExtend to t) := by
  subst hK
  exact pe_bm PySem.F.plainAttrs_list PySem.F.slot_list_extend PySem.F.type_list_extend mt_extend ho ha hbase hfew hline hs hplain
end
end PU

set_option Elab.async false
set_option maxRecDepth 100000
set_option linter.all false
/-! PU26: .stay where there is no Least. -/
namespace PU
open PySem L2
open Enc
def Ans.stayR? : Ans → Option (List Int)
  | .round s _ => some s
  | _ => none
section
variable {p : Pm} {env : List Sl} {te : TE} {i : Nat} {α : Type} [Enc α] {x : α} {g : Option Ans} {put : Ans → Option α}
theorem ev_stayR {m : Option Ans} (h : Ev p false te env m) (hc : Cls p.K (p.cl 5)) (hn : NoAttr p.K (p.cl 5) "stay") : Ev p false (tFld p.K te "stay") env (m.bind fun x => Ans.stayR? x) := ev_fld (get := Ans.stayR?) h fun x y e => by
  cases x <;> cases e
  exact ⟨5, _, rfl, rfl, hc, hn⟩
theorem lens_stayR (L : Lens p env te i x g put) (hc : Cls p.K (p.cl 5)) (hn : NoAttr p.K (p.cl 5) "stay") : Lens p env (tFld p.K te "stay") i x (g.bind Ans.stayR?) (fun c => g.bind fun b => (Ans.setStay? b c).bind put) :=
  lens_f0 L fun b c e => by
    cases b <;> cases e
    exact ⟨5, "papers", _, rfl, hc, hn, fun c' b' e' => by cases e'; rfl⟩
end
end PU

set_option Elab.async false
set_option maxRecDepth 100000
set_option linter.all false
/-! PU27: list(zip(a, b)) of two lists. -/
namespace PU
open PySem PySem.Spec PyProof.Rows L2
open PySem.W (kdl_size)
/-- a zip while a list is filled at S -/
def ZSt (h : Heap) (z TI TO i1 i2 l1 l2 S : Addr) (xs ys : Array Value) (i : Nat) : Prop :=
  IsPair h TI (.ref i1) (.ref i2) ∧ h.IsListIter i1 l1 i ∧ h.IsListIter i2 l2 i ∧ h.IsList l1 xs ∧ h.IsList l2 ys ∧
    ((IsZip h z TI TO .none ∧ ∃ a b, IsPair h TO a b) ∨ ∃ T f oT, IsZipHeld h z TI TO T f ∧ h.get? T = some oT ∧ T ≠ z ∧ T ≠ i1 ∧ T ≠ i2 ∧ T ≠ S)
structure ZOff (z TI TO i1 i2 l1 l2 S : Addr) : Prop where
  z : S ≠ z
  TI : S ≠ TI
  TO : S ≠ TO
  i1 : S ≠ i1
  i2 : S ≠ i2
  l1 : S ≠ l1
  l2 : S ≠ l2
theorem ZSt.keep {h h' : Heap} {z TI TO i1 i2 l1 l2 S : Addr} {xs ys : Array Value} {i : Nat} (x : ZSt h z TI TO i1 i2 l1 l2 S xs ys i) (O : ZOff z TI TO i1 i2 l1 l2 S) (hk : ∀ b o, b ≠ S → h.get? b = some o → h'.get? b = some o) : ZSt h' z TI TO i1 i2 l1 l2 S xs ys i := by
  obtain ⟨hTI, h1, h2, hl1, hl2, hz⟩ := x
  refine ⟨hk _ _ O.TI.symm hTI, h1.at fun o e => hk _ o O.i1.symm e, h2.at fun o e => hk _ o O.i2.symm e, hl1.at fun o e => hk _ o O.l1.symm e, hl2.at fun o e => hk _ o O.l2.symm e, ?_⟩
  rcases hz with ⟨hz, a, b, hTO⟩ | ⟨T, f, oT, hz, hT, r1, r2, r3, r4⟩
  · exact .inl ⟨hk _ _ O.z.symm hz, a, b, hk _ _ O.TO.symm hTO⟩
  · exact .inr ⟨T, f, oT, hk _ _ O.z.symm hz, hk _ _ r4 hT, r1, r2, r3, r4⟩
section
variable {prog : Program} {w : World} {A : Around} {E : Value → Shared → Prop} {s : Shared} {z TI TO i1 i2 l1 l2 S : Addr} {xs ys : Array Value}
theorem z_item (D : ZipApart z TI TO i1 i2 l1 l2) {i : Nat} {Q : Option Value → Shared → Prop} (hi : i < min xs.size ys.size) (st : ZSt s.heap z TI TO i1 i2 l1 l2 S xs ys i) (hds : S < s.heap.objs.size)
    (hQ : ∀ h' x y, xs[i]? = some x → ys[i]? = some y → ZSt h' z TI TO i1 i2 l1 l2 S xs ys (i + 1) → IsPair h' s.heap.objs.size x y → h'.objs.size = s.heap.objs.size + 1 → (∀ b o, b ≠ z → b ≠ TO → b ≠ i1 → b ≠ i2 → s.heap.get? b = some o → h'.get? b = some o) → Q (some (.ref s.heap.objs.size)) { s with heap := h' }) :
    wpAny (model prog w) A (pyNext (.ref z)) Q E s := by
  obtain ⟨hTI, h1, h2, hl1, hl2, hz⟩ := st
  have hix : i < xs.size := Nat.lt_of_lt_of_le hi (Nat.min_le_left ..)
  have hiy : i < ys.size := Nat.lt_of_lt_of_le hi (Nat.min_le_right ..)
  have ex := Array.getElem?_eq_getElem hix
  have ey := Array.getElem?_eq_getElem hiy
  have lt : ∀ {c o}, s.heap.get? c = some o → s.heap.objs.size ≠ c := fun e => Nat.ne_of_gt (Heap.lt_size e)
  have n1 : s.heap.objs.size ≠ i1 := let ⟨_, e, _⟩ := h1; lt e
  have n2 : s.heap.objs.size ≠ i2 := let ⟨_, e, _⟩ := h2; lt e
  rcases hz with ⟨hz, a, b, hTO⟩ | ⟨T, f, oT, hz, hT, r1, r2, r3, r4⟩
  · refine wpAny_pyNext_zip_item D hz hTI hTO h1 h2 hl1 hl2 ex ey fun h' a1 a2 a3 a4 a5 a6 hk => ?_
    exact hQ h' _ _ ex ey ⟨hk _ _ D.TIz D.TITO D.TIi1 D.TIi2 hTI, a3, a4, hl1.at fun o e => hk _ o D.l1z D.l1TO D.l1i1 D.l1i2 e, hl2.at fun o e => hk _ o D.l2z D.l2TO D.l2i1 D.l2i2 e,
        .inr ⟨s.heap.objs.size, false, _, a1, a5, lt hz, n1, n2, Nat.ne_of_gt hds⟩⟩ a5 a6 fun c o c1 c2 c3 c4 e => hk c o c1 c2 c3 c4 e
  · refine wpAny_pyNext_zip_item_held D hz hT hTI h1 h2 hl1 hl2 ex ey fun h' a1 a3 a4 a5 a6 hk => ?_
    exact hQ h' _ _ ex ey ⟨hk _ _ D.TIz D.TIi1 D.TIi2 hTI, a3, a4, hl1.at fun o e => hk _ o D.l1z D.l1i1 D.l1i2 e, hl2.at fun o e => hk _ o D.l2z D.l2i1 D.l2i2 e,
        .inr ⟨T, true, oT, a1, hk _ _ r1 r2 r3 hT, r1, r2, r3, r4⟩⟩ a5 a6 fun c o c1 c2 c3 c4 e => hk c o c1 c3 c4 e
theorem z_done (hA : A.handled = none) (D : ZipApart z TI TO i1 i2 l1 l2) {Q : Option Value → Shared → Prop} (st : ZSt s.heap z TI TO i1 i2 l1 l2 S xs ys (min xs.size ys.size))
    (hQ : ∀ h', (∀ b o, b ≠ z → b ≠ TO → b ≠ i1 → b ≠ i2 → s.heap.get? b = some o → h'.get? b = some o) → Q none { s with heap := h' }) : wpAny (model prog w) A (pyNext (.ref z)) Q E s := by
  obtain ⟨hTI, h1, h2, hl1, hl2, hz⟩ := st
  have hend : xs[min xs.size ys.size]? = none ∨ ys[min xs.size ys.size]? = none := by
    rcases Nat.le_total xs.size ys.size with h | h
    · exact .inl (Array.getElem?_eq_none (by rw [Nat.min_eq_left h]; exact Nat.le_refl _))
    · exact .inr (Array.getElem?_eq_none (by rw [Nat.min_eq_right h]; exact Nat.le_refl _))
  rcases hz with ⟨hz, a, b, hTO⟩ | ⟨T, f, oT, hz, hT, r1, r2, r3, r4⟩
  · exact wpAny_pyNext_zip_end hA D hz hTI hTO h1 h2 hl1 hl2 hend fun h' hk => hQ h' hk
  · exact wpAny_pyNext_zip_end_held hA D hz hT hTI h1 h2 hl1 hl2 hend fun h' hk => hQ h' fun c o c1 c2 c3 c4 e => hk c o c1 c3 c4 e
/-- the pairs laid -/
structure ZG (xs ys : Array Value) (lo : Addr) (h : Heap) (as : List Addr) : Prop where
  rise : as.Pairwise (· < ·)
  above : ∀ a ∈ as, lo < a
  pairs : ∀ (j : Nat) (a : Addr), as[j]? = some a → ∃ x y, xs[j]? = some x ∧ ys[j]? = some y ∧ IsPair h a x y
theorem ZG.there {lo : Addr} {h : Heap} {as : List Addr} (g : ZG xs ys lo h as) {a : Addr} (ha : a ∈ as) : a < h.objs.size := by
  obtain ⟨j, hj⟩ := List.mem_iff_getElem?.mp ha
  obtain ⟨_, _, _, _, e⟩ := g.pairs j a hj
  exact Heap.lt_size e
theorem z_loop {R : Result → Shared → Prop} (hh : A.handled = none) (D : ZipApart z TI TO i1 i2 l1 l2) (O : ZOff z TI TO i1 i2 l1 l2 S) (lz : z < S) (lTO : TO < S) (li1 : i1 < S) (li2 : i2 < S) (hn : min xs.size ys.size ≤ sizeLine) (res : Value) {h₁ : Heap}
    (hR : ∀ h' tk acc c as, (∀ b o, b ≠ S → b ≠ z → b ≠ TO → b ≠ i1 → b ≠ i2 → h₁.get? b = some o → h'.get? b = some o) → h'.get? S = some { cls := .type "list", dict := none, data := .seq acc c, slots := #[] } → as.length = min xs.size ys.size → ZG xs ys S h' as →
      acc.toList = as.map Value.ref → R (.ok (.ret res)) { s with heap := h', toks := tk }) :
    ∀ (k i : Nat) (h : Heap) (tk c : Nat) (acc : Array Value) (as : List Addr), min xs.size ys.size - i = k → i ≤ min xs.size ys.size → ZSt h z TI TO i1 i2 l1 l2 S xs ys i → (∀ b o, b ≠ S → b ≠ z → b ≠ TO → b ≠ i1 → b ≠ i2 → h₁.get? b = some o → h.get? b = some o) →
      h.get? S = some { cls := .type "list", dict := none, data := .seq acc c, slots := #[] } → acc.toList = as.map Value.ref → as.length = i → ZG xs ys S h as →
      codeAny (model prog w) A (.builtin "list.extend.loop" ⟨[.ref S, .ref z, res], []⟩) R { s with heap := h, toks := tk } := by
  intro k
  induction k with
  | zero =>
    intro i h tk c acc as hk hi hst hkeep hS hacc hal hG
    have hin : i = min xs.size ys.size := by omega
    subst hin
    refine codeAny_builtin PySem.F.entry_extend_loop ?_
    rw [Around.under_plainId PySem.F.plain_extend_loop _]
    show wpAny _ A.in1 (pyNext (.ref z) >>= _) _ _ _
    refine wpAny_bind (z_done (s := { s with heap := h, toks := tk }) (A := A.in1) hh D hst fun h' he => ?_)
    refine wpAny_pure (hR h' tk acc c as (fun b o e0 e1 e2 e3 e4 e => he b o e1 e2 e3 e4 (hkeep b o e0 e1 e2 e3 e4 e)) (he S _ O.z O.TO O.i1 O.i2 hS) hal ⟨hG.rise, hG.above, fun j a hj => ?_⟩ hacc)
    obtain ⟨x, y, e1, e2, e3⟩ := hG.pairs j a hj
    have hb := hG.above a (List.mem_of_getElem? hj)
    exact ⟨x, y, e1, e2, he a _ (Nat.ne_of_gt (Nat.lt_trans lz hb)) (Nat.ne_of_gt (Nat.lt_trans lTO hb)) (Nat.ne_of_gt (Nat.lt_trans li1 hb)) (Nat.ne_of_gt (Nat.lt_trans li2 hb)) e3⟩
  | succ k ih =>
    intro i h tk c acc as hk hi hst hkeep hS hacc hal hG
    have hlt : i < min xs.size ys.size := by omega
    have hsz : acc.size = i := by rw [← Array.length_toList, hacc, List.length_map, hal]
    refine codeAny_builtin PySem.F.entry_extend_loop ?_
    rw [Around.under_plainId PySem.F.plain_extend_loop _]
    show wpAny _ A.in1 (pyNext (.ref z) >>= _) _ _ _
    refine wpAny_bind (z_item (s := { s with heap := h, toks := tk }) (S := S) D hlt hst (Heap.lt_size hS) fun h' x y hx hy hst' ht hz hkp => ?_)
    dsimp only at ht hz hkp ⊢
    have hS' := hkp S _ O.z O.TO O.i1 O.i2 hS
    have up : ∀ b o, b ≠ S → h'.get? b = some o → (h'.update S (Obj.mapSeq (·.push (Value.ref h.objs.size)))).get? b = some o := fun b o hb e => (Heap.get?_update_other _ _ (Ne.symm hb)).trans e
    have hSl : S < h.objs.size := Heap.lt_size hS
    show wpAny _ A.in1 (updateSeq S (·.push (Value.ref h.objs.size)) >>= _) _ _ _
    refine wpAny_bind ?_
    refine wpAny_updateSeq hS' rfl (wpAny_pure ⟨plainId_quiet PySem.F.plain_extend_loop _, ih (i + 1) _ tk _ (acc.push (Value.ref h.objs.size)) (as ++ [h.objs.size]) (by omega) hlt (hst'.keep O up)
      (fun b o e0 e1 e2 e3 e4 e => up b o e0 (hkp b o e1 e2 e3 e4 (hkeep b o e0 e1 e2 e3 e4 e))) (Heap.get?_update_self _ hS' rfl) (by rw [Array.toList_push, hacc, List.map_append]; rfl) (by rw [List.length_append, hal]; rfl) ⟨?_, ?_, ?_⟩⟩) (by rw [hsz]; omega) (by show (acc.push (Value.ref h.objs.size)).size ≤ sizeLine + 1; rw [Array.size_push, hsz]; omega)
    · refine List.pairwise_append.mpr ⟨hG.rise, List.pairwise_singleton _ _, fun a ha b hb => ?_⟩
      rw [List.mem_singleton.mp hb]
      exact hG.there ha
    · intro a ha
      rcases List.mem_append.mp ha with ha | ha
      · exact hG.above a ha
      · rw [List.mem_singleton.mp ha]; exact hSl
    · intro j b hj
      rcases Nat.lt_trichotomy j as.length with h1 | h1 | h1
      · rw [List.getElem?_append_left h1] at hj
        obtain ⟨x', y', e1, e2, e3⟩ := hG.pairs j b hj
        have hb := hG.above b (List.mem_of_getElem? hj)
        exact ⟨x', y', e1, e2, up b _ (Nat.ne_of_gt hb) (hkp b _ (Nat.ne_of_gt (Nat.lt_trans lz hb)) (Nat.ne_of_gt (Nat.lt_trans lTO hb)) (Nat.ne_of_gt (Nat.lt_trans li1 hb)) (Nat.ne_of_gt (Nat.lt_trans li2 hb)) e3)⟩
      · subst h1
        have hb : h.objs.size = b := by simpa using hj
        subst hb
        exact ⟨x, y, by rw [hal]; exact hx, by rw [hal]; exact hy, up _ _ (Nat.ne_of_gt hSl) ht⟩
      · have hnone : (as ++ [h.objs.size])[j]? = none := List.getElem?_eq_none (by rw [List.length_append, List.length_singleton]; omega)
        rw [hnone] at hj; cases hj
theorem zip_no_len : typeLookup (.type "zip") "__len__" = pure none := am_miss_of_fast (by decide +kernel)
theorem zip_no_hint : typeLookup (.type "zip") "__length_hint__" = pure none := am_miss_of_fast (by decide +kernel)
theorem hint_zip {r : Addr} (hT : s.TypeIs (.ref r) "zip") {Q : Bool → Shared → Prop} (h : Q true s) : wpAny (model prog w) A (Builtin.List.listLengthHint (.ref r)) Q E s := by
  unfold Builtin.List.listLengthHint
  refine wpAny_bind (wpAny_specialOf hT zip_no_len ?_)
  refine wpAny_ite_split (fun hab => absurd hab (by decide +kernel)) (fun _ => ?_)
  refine wpAny_ite_split (fun hab => absurd hab (by decide)) (fun _ => ?_)
  refine wpAny_bind (wpAny_specialOf hT zip_no_hint ?_)
  exact wpAny_pure h
theorem z_extend {R : Result → Shared → Prop} (hh : A.handled = none) (D : ZipApart z TI TO i1 i2 l1 l2) (O : ZOff z TI TO i1 i2 l1 l2 S) (lz : z < S) (lTO : TO < S) (li1 : i1 < S) (li2 : i2 < S) (hn : min xs.size ys.size ≤ sizeLine)
    (st : ZSt s.heap z TI TO i1 i2 l1 l2 S xs ys 0) (hz0 : IsZip s.heap z TI TO .none) (res : Value) (c₀ : Nat) (hS : s.heap.get? S = some { cls := .type "list", data := .seq #[] c₀ })
    (hR : ∀ h' tk acc c as, (∀ b o, b ≠ S → b ≠ z → b ≠ TO → b ≠ i1 → b ≠ i2 → s.heap.get? b = some o → h'.get? b = some o) → h'.get? S = some { cls := .type "list", dict := none, data := .seq acc c, slots := #[] } → as.length = min xs.size ys.size → ZG xs ys S h' as →
      acc.toList = as.map Value.ref → R (.ok (.ret res)) { s with heap := h', toks := tk }) :
    wpAny (model prog w) A.in1 (Builtin.List.listExtendWith (.ref S) (.ref z) res)
      (fun fin s' => match fin with | .done f => R (.ok f) s' | .again c' => c'.quiet = true ∧ codeAny (model prog w) A c' R s') (fun e s' => R (.error e) s') s := by
  have key : ∀ (h : Heap) (c₁ tk : Nat), (∀ b o, b ≠ S → s.heap.get? b = some o → h.get? b = some o) →
      h.get? S = some { cls := .type "list", data := .seq #[] c₁ } → codeAny (model prog w) A (.builtin "list.extend.loop" ⟨[.ref S, .ref z, res], []⟩) R { s with heap := h, toks := tk } := by
    intro h c₁ tk hk hS₁
    exact z_loop (s := s) (h₁ := s.heap) hh D O lz lTO li1 li2 hn res hR _ 0 h tk c₁ #[] [] (Nat.sub_zero _) (Nat.zero_le _) (st.keep O hk) (fun b o e0 _ _ _ _ e => hk b o e0 e) hS₁ rfl rfl
      ⟨List.Pairwise.nil, (fun _ ha => nomatch ha), (fun j a hj => by simp at hj)⟩
  have hT : s.TypeIs (.ref z) "zip" := ⟨_, hz0, rfl⟩
  unfold Builtin.List.listExtendWith
  refine wpAny_bind (wpAny_typeOf (T := "zip") hT ?_)
  have h1 : Builtin.List.listSameRef (.ref S) (.ref z) = false := by simp [Builtin.List.listSameRef, O.z]
  have h2 : (Value.type "zip" == Value.type "list") = false := by decide
  have h3 : (Value.type "zip" == Value.type "tuple") = false := by decide
  simp only [h1, h2, h3, Bool.or_false, Bool.false_eq_true, if_false]
  refine wpAny_bind (wpAny_pyIter_zip hz0 ?_)
  refine wpAny_bind (wpAny_holding (hint_zip hT ?_))
  refine wpAny_ite_split (fun _ => ?_) (fun _ => wpAny_pure ⟨plainId_quiet PySem.F.plain_extend_loop _, key _ c₀ _ (fun b o _ e => e) hS⟩)
  refine wpAny_bind (wpAny_rule ?_)
  refine wpAny_bind ?_
  show wpAny _ _ (updateSeq S (·.push .none) >>= fun _ => updateSeq S (·.pop)) _ _ _
  refine wpAny_bind (wpAny_updateSeq hS rfl ?_)
  have hS₂ := Heap.get?_update_self (Obj.mapSeq (·.push Value.none)) hS rfl
  refine wpAny_updateSeq (hz := by seq_fits) hS₂ rfl ?_
  have hS₃ := Heap.get?_update_self (Obj.mapSeq (·.pop)) hS₂ rfl
  refine wpAny_pure ⟨plainId_quiet PySem.F.plain_extend_loop _, key _ _ _ (fun b o hb e => ?_) hS₃⟩
  exact (Heap.get?_update_other _ _ (Ne.symm hb)).trans ((Heap.get?_update_other _ _ (Ne.symm hb)).trans e)
theorem z_init {R : Result → Shared → Prop} (hh : A.handled = none) (D : ZipApart z TI TO i1 i2 l1 l2) (O : ZOff z TI TO i1 i2 l1 l2 S) (lz : z < S) (lTO : TO < S) (li1 : i1 < S) (li2 : i2 < S) (hn : min xs.size ys.size ≤ sizeLine)
    (st : ZSt s.heap z TI TO i1 i2 l1 l2 S xs ys 0) (hz0 : IsZip s.heap z TI TO .none) (hS : s.heap.get? S = some { cls := .type "list", data := .seq #[] })
    (hR : ∀ h' tk acc c as, (∀ b o, b ≠ S → b ≠ z → b ≠ TO → b ≠ i1 → b ≠ i2 → s.heap.get? b = some o → h'.get? b = some o) → h'.get? S = some { cls := .type "list", dict := none, data := .seq acc c, slots := #[] } → as.length = min xs.size ys.size → ZG xs ys S h' as →
      acc.toList = as.map Value.ref → R (.ok (.ret .none)) { s with heap := h', toks := tk }) :
    wpAny (model prog w) A.in1 (Builtin.«list.__init__» ⟨[.ref S, .ref z], []⟩)
      (fun fin s' => match fin with | .done f => R (.ok f) s' | .again c' => c'.quiet = true ∧ codeAny (model prog w) A c' R s') (fun e s' => R (.error e) s') s := by
  show wpAny _ _ (do let old ← Builtin.List.listItems (.ref S); Builtin.List.listUpdate (.ref S) (fun _ => #[]); letGo old.toList.reverse; Builtin.List.listExtendWith (.ref S) (.ref z) .none) _ _ s
  refine wpAny_bind ?_
  unfold Builtin.List.listItems
  refine wpAny_bind (wpAny_seqItems hS rfl (wpAny_pure ?_))
  show wpAny _ _ (updateSeq S (fun _ => #[]) >>= fun _ => letGo (#[] : Array Value).toList.reverse >>= fun _ => Builtin.List.listExtendWith (.ref S) (.ref z) .none) _ _ s
  refine wpAny_bind (wpAny_updateSeq hS rfl ?_)
  have hS₂ := Heap.get?_update_self (Obj.mapSeq (fun _ => (#[] : Array Value))) hS rfl
  have oth : ∀ b o, b ≠ S → s.heap.get? b = some o → (s.heap.update S (Obj.mapSeq (fun _ => (#[] : Array Value)))).get? b = some o :=
    fun b o hb e => (Heap.get?_update_other _ _ (Ne.symm hb)).trans e
  refine wpAny_bind (wpAny_letGo ?_)
  refine z_extend hh D O lz lTO li1 li2 hn (st.keep O oth) (oth _ _ O.z.symm hz0) .none _ hS₂ fun h' tk acc c as hk hS' hl hG hacc => ?_
  exact hR h' tk acc c as (fun b o e0 e1 e2 e3 e4 e => hk b o e0 e1 e2 e3 e4 (oth b o e0 e)) hS' hl hG hacc
theorem z_call {Q : Value → Shared → Prop} (hh : A.handled = none) (D : ZipApart z TI TO i1 i2 l1 l2) (hz0 : IsZip s.heap z TI TO .none) (hTI : IsPair s.heap TI (.ref i1) (.ref i2)) (hTO : ∃ a b, IsPair s.heap TO a b) (h1 : s.heap.IsListIter i1 l1 0) (h2 : s.heap.IsListIter i2 l2 0)
    (hl1 : s.heap.IsList l1 xs) (hl2 : s.heap.IsList l2 ys) (hn : min xs.size ys.size ≤ sizeLine)
    (hQ : ∀ h' tk acc c as, (∀ b o, b ≠ z → b ≠ TO → b ≠ i1 → b ≠ i2 → s.heap.get? b = some o → h'.get? b = some o) → h'.get? s.heap.objs.size = some { cls := .type "list", dict := none, data := .seq acc c, slots := #[] } → as.length = min xs.size ys.size → ZG xs ys s.heap.objs.size h' as →
      acc.toList = as.map Value.ref → Q (.ref s.heap.objs.size) { s with heap := h', toks := tk }) :
    wpAny (model prog w) A (call (.type "list") [.ref z]) Q E s := by
  refine callType_codes (Q₁ := fun obj s₁ => obj = .ref s.heap.objs.size ∧ s₁ = { s with heap := s.heap.push { cls := .type "list", data := .seq #[] } }) PySem.F.called_list (PySem.F.typeCall_list_1 _) PySem.F.entry_list_init
    (code_list_new _ ⟨rfl, rfl⟩) fun obj s₁ h₁ => ?_
  obtain ⟨rfl, rfl⟩ := h₁
  have hS : (s.heap.push { cls := .type "list", data := .seq #[] }).get? s.heap.objs.size = some { cls := .type "list", data := .seq #[] } := Heap.get?_push_size _ rfl
  have nz : z < s.heap.objs.size := Heap.lt_size hz0
  have nTI : TI < s.heap.objs.size := Heap.lt_size hTI
  have nTO : TO < s.heap.objs.size := let ⟨_, _, h⟩ := hTO; Heap.lt_size h
  have n1 : i1 < s.heap.objs.size := let ⟨_, h, _⟩ := h1; Heap.lt_size h
  have n2 : i2 < s.heap.objs.size := let ⟨_, h, _⟩ := h2; Heap.lt_size h
  have m1 : l1 < s.heap.objs.size := let ⟨_, h, _⟩ := hl1; Heap.lt_size h
  have m2 : l2 < s.heap.objs.size := let ⟨_, h, _⟩ := hl2; Heap.lt_size h
  have pu : ∀ b o, s.heap.get? b = some o → (s.heap.push { cls := .type "list", data := .seq #[] }).get? b = some o := fun b o e => Heap.get?_push_of_some _ e
  refine ⟨⟨_, hS, rfl⟩, PySem.F.args_list_init_2 _ _, z_init (A := A.in1) (S := s.heap.objs.size) (s := { s with heap := s.heap.push { cls := .type "list", data := .seq #[] } }) hh D ⟨Nat.ne_of_gt nz, Nat.ne_of_gt nTI, Nat.ne_of_gt nTO, Nat.ne_of_gt n1, Nat.ne_of_gt n2, Nat.ne_of_gt m1, Nat.ne_of_gt m2⟩ nz nTO n1 n2 hn
    ⟨pu _ _ hTI, h1.at fun o e => pu _ o e, h2.at fun o e => pu _ o e, hl1.at fun o e => pu _ o e, hl2.at fun o e => pu _ o e, .inl ⟨pu _ _ hz0, let ⟨a, b, h⟩ := hTO; ⟨a, b, pu _ _ h⟩⟩⟩ (pu _ _ hz0) hS (fun h' tk acc c as hk hS' hl hG hacc => ?_)⟩
  exact ⟨rfl, hQ h' tk acc c as (fun b o e1 e2 e3 e4 e => hk b o (Nat.ne_of_lt (Heap.lt_size e)) e1 e2 e3 e4 (pu b o e)) hS' hl hG hacc⟩
end

/-- pairs laid at their addresses -/
def putP : Hp → List Addr → List (V × V) → Hp
  | H, a :: as, p :: ps => putP (upd H a (.tup [p.1, p.2])) as ps
  | H, _, _ => H
theorem putP_off {b : Addr} : ∀ (as : List Addr) (ps : List (V × V)) (H : Hp), b ∉ as → putP H as ps b = H b
  | [], _, _, _ => rfl
  | _ :: _, [], _, _ => rfl
  | a :: as, p :: ps, H, h => by
    show putP (upd H a (.tup [p.1, p.2])) as ps b = H b
    rw [putP_off as ps _ (fun z => h (List.mem_cons_of_mem _ z)), upd_ne (fun z => h (by rw [z]; exact List.mem_cons_self))]
theorem putP_at : ∀ (as : List Addr) (ps : List (V × V)) (H : Hp), as.length = ps.length → as.Nodup → Paired (fun (t : Addr) (p : V × V) => putP H as ps t = some (.tup [p.1, p.2])) as ps
  | [], [], _, _, _ => .nil
  | [], _ :: _, _, h, _ => by cases h
  | _ :: _, [], _, h, _ => by cases h
  | a :: as, p :: ps, H, h, hn => by
    have hn' := List.nodup_cons.mp hn
    have ih := putP_at as ps (upd H a (.tup [p.1, p.2])) (Nat.succ.inj h) hn'.2
    refine .cons ?_ ih
    show putP (upd H a (.tup [p.1, p.2])) as ps a = some (.tup [p.1, p.2])
    rw [putP_off as ps _ hn'.1, upd_same]
def tListZip (K : PySem.W.Frag) (ta : TA) : TE := fun σ H Q => ta σ H fun vs H1 => ∃ a b xs ys, vs = [.ref a, .ref b] ∧ SqL K H1 a xs ∧ SqL K H1 b ys ∧ xs.length ≤ sizeLine ∧ ∀ (p : Addr) (ts : List Addr), ts.length = (xs.zip ys).length → ts.Nodup → (∀ t ∈ ts, H1 t = none) → H1 p = none → p ∉ ts → Q (.ref p) (upd (putP H1 ts (xs.zip ys)) p (.lst (ts.map V.ref)))
section
variable {X : Cx}
theorem zl_laid {pins : List (Addr × Obj)} {σ : L2.St} {H : Hp} {s : Shared} {h' : Heap} {tk : Nat} {xs ys : List V} {its its2 : List Value} {acc : Array Value} {c : Nat} {as : List Addr} {S : Addr} (I : Inv X pins σ H s) (hz : xs.length ≤ sizeLine) (rv : Vals xs its) (rv2 : Vals ys its2)
    (hk : ∀ b o, s.heap.get? b = some o → h'.get? b = some o) (hSs : s.heap.objs.size ≤ S) (hS : h'.get? S = some { cls := .type "list", dict := none, data := .seq acc c, slots := #[] }) (hl : as.length = min its.toArray.size its2.toArray.size) (hG : ZG its.toArray its2.toArray S h' as) (hacc : acc.toList = as.map Value.ref) :
    as.length = (xs.zip ys).length ∧ as.Nodup ∧ (∀ t ∈ as, H t = none) ∧ H S = none ∧ S ∉ as ∧ Inv X pins σ (upd (putP H as (xs.zip ys)) S (.lst (as.map V.ref))) { s with heap := h', toks := tk } := by
  have l1 := rv.length
  have l2 := rv2.length
  have ll : as.length = (xs.zip ys).length := by
    rw [hl, List.length_zip]
    simp only [List.size_toArray]
    omega
  have hSn : S ∉ as := fun z => Nat.lt_irrefl _ (hG.above _ z)
  have nd : as.Nodup := List.Pairwise.imp (fun {a b} (h : a < b) => Nat.ne_of_lt h) hG.rise
  have new : ∀ t ∈ as, H t = none := fun t ht => I.hok.fresh (Nat.le_of_lt (Nat.lt_of_le_of_lt hSs (hG.above t ht)))
  have newS : H S = none := I.hok.fresh hSs
  have atP := putP_at as (xs.zip ys) H ll nd
  have off : ∀ b, b ∉ as → b ≠ S → upd (putP H as (xs.zip ys)) S (.lst (as.map V.ref)) b = H b := fun b h1 h2 => by rw [upd_ne h2, putP_off as _ _ h1]
  have low : ∀ b o, s.heap.get? b = some o → b ∉ as ∧ b ≠ S := fun b o e => ⟨fun z => absurd (Heap.lt_size e) (Nat.not_lt.mpr (Nat.le_of_lt (Nat.lt_of_le_of_lt hSs (hG.above b z)))), Nat.ne_of_lt (Nat.lt_of_lt_of_le (Heap.lt_size e) hSs)⟩
  have kp : ∀ b u, H b = some u → upd (putP H as (xs.zip ys)) S (.lst (as.map V.ref)) b = some u := fun b u e => by
    rw [off b (fun z => by rw [new b z] at e; cases e) (fun z => by rw [z, newS] at e; cases e)]
    exact e
  refine ⟨ll, nd, new, newS, hSn, ?_⟩
  refine I.call' (ch := []) rfl ⟨fun b o q _ _ _ => hk b o q, fun b o q _ _ _ => ⟨o.slots, hk b o q⟩, fun b o q n _ => ?_, fun b o q _ => ⟨o, hk b o q⟩, fun b xs q => kp b _ q, fun b o u q => kp b _ q, fun b ps q => ⟨#[], by rw [kp b _ q]; simp⟩⟩ (fun b u q => ?_) I.bare fun b z => by simp at z
  · obtain ⟨z1, z2⟩ := low b o q
    rw [off b z1 z2]
    exact n
  · by_cases hb2 : b = S
    · rw [hb2] at q ⊢
      rw [upd_same] at q
      cases q
      refine ⟨by rw [List.length_map, ll, List.length_zip]; omega, acc.toList, c, by rw [hacc]; exact LiI.vals_refs as, ?_⟩
      rw [Array.toArray_toList]
      exact hS
    · by_cases hb : b ∈ as
      · rw [upd_ne hb2] at q
        obtain ⟨j, pk, e1, e2, e3⟩ := LiI.paired_ix atP hb
        rw [e3] at q
        cases q
        obtain ⟨u, v, f1, f2, f3⟩ := hG.pairs j b e1
        obtain ⟨g1, g2⟩ := List.getElem?_zip_eq_some.mp e2
        obtain ⟨u', hu, ru⟩ := rv.get g1
        obtain ⟨v', hv, rv'⟩ := rv2.get g2
        have eu : u' = u := by simpa [hu] using f1
        have ev : v' = v := by simpa [hv] using f2
        subst eu; subst ev
        exact ⟨by show 2 ≤ sizeLine; decide, [_, _], .cons ru (.cons rv' .nil), ⟨_, f3, rfl, _, rfl⟩⟩
      · rw [off b hb hb2] at q
        exact (I.hok b u q).stay (fun d v _ y => hk d v y) (fun d y => kp d _ y) fun d xs y => kp d _ y
/-- list(zip(e, e2)) -/
theorem pe_listZip {e e2 : Expr} {ta : TA} {p p2 cpos pos : Pos} (hc : X.calm = true) (ha : PA X [e, e2] ta) (hg : Gl X "list") (hm : X.mg "list" = none) (hg2 : Gl X "zip") (hm2 : X.mg "zip" = none) (hv : bootBuiltins "list" = some (.type "list"))
    (hs : starEach [.Call (.Name "zip" p2) [e, e2] [] cpos] X.env = (false, eval (.Call (.Name "zip" p2) [e, e2] [] cpos) X.env) :: starEach [] X.env := by rfl)
    (hs2 : starEach [e, e2] X.env = (false, eval e X.env) :: starEach [e2] X.env := by rfl) (hpl : (backTo cpos (starEach [e2] X.env)).any (·.1) = false := by rfl) :
    PE X (.Call (.Name "list" p) [.Call (.Name "zip" p2) [e, e2] [] cpos] [] pos) (tListZip X.K ta) := by
  refine ⟨fun pins s σ H Q I hq => ?_⟩
  refine wpAny_Call_Name_kw (ld_blt I hg hm hv ?_)
  refine PyProof.Rows.callWith_type1 ?_ hs rfl
  rw [hs]
  show wpAny _ _ (spliced ((false, eval (.Call (.Name "zip" p2) [e, e2] [] cpos) X.env) :: backTo pos (starEach [] X.env))) _ _ s
  refine Calls.spliced_cons ?_
  refine Call_ (ld_blt I hg2 hm2 PyProof.Rows.boot_zip (PyProof.Rows.callWith_type1 (thn (ha.run cpos pins s σ H _ I hq) fun us s1 ⟨vs, H1, I1, r1, q1⟩ => ?_) hs2 hpl))
  obtain ⟨a, b, xs, ys, ex, hqx, hqy, hz, q1⟩ := q1
  subst ex
  cases r1 with
  | cons r rr =>
    cases rr with
    | cons r' rr =>
      cases rr
      cases r
      cases r'
      obtain ⟨its, rv, p1, _⟩ := I1.list hqx
      obtain ⟨its2, rv2, p2, _⟩ := I1.list hqy
      refine call_zip_2 p1.isList p2.isList fun h' hz' hTI hTO h1 h2 hsz hk => ?_
      refine Calls.spliced_nil ?_
      have l1 := rv.length
      refine z_call (s := { s1 with heap := h' }) (xs := its.toArray) (ys := its2.toArray) (I1.ok.hd hc) (PySem.W.ktu_apart s1.heap.objs.size a b p1.lt p2.lt) hz' hTI ⟨_, _, hTO⟩ h1 h2 (p1.isList.at fun o e => hk _ o e) (p2.isList.at fun o e => hk _ o e) (by simp only [List.size_toArray]; omega) fun h'' tk acc c as hk2 hS hl hG hacc => ?_
      have hS0 : s1.heap.objs.size ≤ h'.objs.size := by rw [hsz]; exact Nat.le_add_right _ _
      obtain ⟨k1, k2, k3, k4, k5, J⟩ := zl_laid (tk := tk) I1 hz rv rv2 (fun b o e => hk2 b o (Nat.ne_of_lt (Nat.lt_of_lt_of_le (Heap.lt_size e) (Nat.le_add_right _ _))) (Nat.ne_of_lt (Nat.lt_of_lt_of_le (Heap.lt_size e) (Nat.le_add_right _ _))) (Nat.ne_of_lt (Heap.lt_size e)) (Nat.ne_of_lt (Nat.lt_of_lt_of_le (Heap.lt_size e) (Nat.le_add_right _ _))) (hk b o e)) hS0 hS hl hG hacc
      exact ⟨.ref _, _, J, rfl, q1 _ as k1 k2 k3 k4 k5⟩
end

section
variable {X : Cx}
theorem xe_listZip (K) {e e2 : Expr} {ta : TA} {p p2 cpos pos : Pos} (hc : X.calm = true) (hg : Gl X "list") (hm : X.mg "list" = none) (hg2 : Gl X "zip") (hm2 : X.mg "zip" = none) (ha : PA X [e, e2] ta)
    (hs : starEach [.Call (.Name "zip" p2) [e, e2] [] cpos] X.env = (false, eval (.Call (.Name "zip" p2) [e, e2] [] cpos) X.env) :: starEach [] X.env := by rfl)
    (hs2 : starEach [e, e2] X.env = (false, eval e X.env) :: starEach [e2] X.env := by rfl) (hpl : (backTo cpos (starEach [e2] X.env)).any (·.1) = false := by rfl) (hK : X.K = K := by rfl) :
    PE X (.Call (.Name "list" p) [.Call (.Name "zip" p2) [e, e2] [] cpos] [] pos) (tListZip K ta) := by
  subst hK; exact pe_listZip hc ha hg hm hg2 hm2 PyProof.Rows.boot_list hs hs2 hpl
end
def listZip? {α β : Type} (xs : List α) (ys : List β) : Option (List (α × β)) := if xs.length ≤ 100000 then some (List.zip xs ys) else none
section
open Enc
variable {p : Pm} {env : List Sl} {ta tb : TE} {α β : Type} [Enc α] [Enc β]
theorem gr_put : ∀ (as : List Addr) (ps : List (V × V)) {G H : Hp}, Same G H → (∀ a ∈ as, H a = none) → as.Nodup → Gr G (putP G as ps) H (putP H as ps)
  | [], _, _, _, s, _, _ => .refl s
  | _ :: _, [], _, _, s, _, _ => .refl s
  | a :: as, p :: ps, G, H, s, hf, hn => by
    have hn' := List.nodup_cons.mp hn
    refine (Gr.new s (hf a (List.mem_cons_self))).trans (gr_put as ps (upd_mono s) (fun b hb => ?_) hn'.2)
    rw [upd_ne (by rintro rfl; exact hn'.1 hb)]
    exact hf b (List.mem_cons_of_mem _ hb)
theorem rpA_put {xs : List α} {ys : List β} : ∀ {vs ws : List V} {G : Hp}, RpA p G (xs.map enc) vs → RpA p G (ys.map enc) ws → ∀ as : List Addr, as.length = (vs.zip ws).length → as.Nodup → (∀ a ∈ as, G a = none) →
    RpA p (putP G as (vs.zip ws)) ((List.zip xs ys).map enc) (as.map V.ref) := by
  induction xs generalizing ys with
  | nil =>
    intro vs ws G h1 h2 as hl hn hf
    have e : vs = [] := h1
    subst e
    have : as = [] := List.length_eq_zero_iff.mp (by simpa using hl)
    subst this
    exact rfl
  | cons x xs ih =>
    intro vs ws G h1 h2 as hl hn hf
    obtain ⟨v, vs, rfl, a1, a2⟩ := h1
    cases ys with
    | nil =>
      have e : ws = [] := h2
      subst e
      have : as = [] := List.length_eq_zero_iff.mp (by simpa using hl)
      subst this
      exact rfl
    | cons y ys =>
      obtain ⟨w, ws, rfl, b1, b2⟩ := h2
      cases as with
      | nil => simp at hl
      | cons a as =>
        have hn' := List.nodup_cons.mp hn
        have na : G a = none := hf a (List.mem_cons_self)
        have sm : Same G (upd G a (.tup [v, w])) := same_new na
        have hf' : ∀ b ∈ as, (upd G a (.tup [v, w])) b = none := fun b hb => by
          rw [upd_ne (by rintro rfl; exact hn'.1 hb)]
          exact hf b (List.mem_cons_of_mem _ hb)
        have l' : as.length = (vs.zip ws).length := by simpa using hl
        have k := ih (RpA.mono sm _ a2) (RpA.mono sm _ b2) as l' hn'.2 hf'
        have g : Same (upd G a (.tup [v, w])) (putP (upd G a (.tup [v, w])) as (vs.zip ws)) := (gr_put as (vs.zip ws) (.refl _) hf' hn'.2).g
        refine RpA.cons ?_ k
        exact ⟨a, [v, w], rfl, g _ _ upd_same, .cons (Rp.mono (sm.trans g) _ a1) (.cons (Rp.mono (sm.trans g) _ b1) .nil)⟩
theorem ev_listZip {ma : Option (List α)} {mb : Option (List β)} (ha : Ev p false ta env ma) (hb : Ev p false tb env mb) : Ev p true (tListZip p.K (tCons ta (tCons tb tNil))) env (ma.bind fun xs => mb.bind fun ys => listZip? xs ys) := fun z e G0 H0 σ G H s Q k => by
  obtain ⟨x, e1, e⟩ := bind_some e
  obtain ⟨y, e2, e⟩ := bind_some e
  unfold listZip? at e
  split at e
  · rename_i c
    cases e
    refine ha x e1 G0 H0 σ G H s _ fun v G1 H1 g1 r1 => hb y e2 G0 H0 σ G1 H1 (s.step g1) _ fun w G2 H2 g2 r2 => ?_
    obtain ⟨a, us, rfl, h1, h2⟩ := (Rp.mono g2.g _ r1 : Rp p G2 (.lst (x.map enc)) v)
    obtain ⟨b, ws, rfl, h3, h4⟩ := (r2 : Rp p G2 (.lst (y.map enc)) w)
    have l1 := h2.length
    rw [List.length_map] at l1
    refine ⟨a, b, us, ws, rfl, .of (g2.s _ _ h1), .of (g2.s _ _ h3), sz_of (by omega), fun q ts k1 k2 k3 k4 k5 => ?_⟩
    have fG : ∀ t ∈ ts, G2 t = none := fun t ht => g2.s.free (k3 t ht)
    have g3 := gr_put ts (us.zip ws) g2.s k3 k2
    have nq : putP H2 ts (us.zip ws) q = none := by rw [putP_off ts _ _ k5]; exact k4
    have r := rpA_put h2 h4 ts k1 k2 fG
    have g4 := (g1.trans g2).trans g3
    refine k _ _ _ (g4.trans (.own g3.s nq)) ⟨q, ts.map V.ref, (List.zip x y).map enc, rfl, rfl, g4.h.free nq, g3.s.free nq, upd_same, r⟩
  · cases e
end
end PU

set_option Elab.async false
set_option maxRecDepth 100000
set_option linter.all false
/-! PU28: objects of any number of fields; what changes what is handed to it. -/
namespace PU
open PySem L2
open Enc
/-! ### fields -/
def putG {β : Type} (f : Str) (v : β) : List (Str × β) → List (Str × β)
  | [] => [(f, v)]
  | (g, u) :: r => if g = f then (g, v) :: r else (g, u) :: putG f v r
theorem putF_self {f : Str} {w : V} : ∀ {xs : List (Str × V)}, xs.lookup f = some w → putF f w xs = xs
  | [], h => nomatch h
  | (g, u) :: r, h => by
    show (if g = f then (g, w) :: r else (g, u) :: putF f w r) = _
    by_cases c : g = f
    · subst c
      rw [lk0] at h
      cases h
      rw [if_pos rfl]
    · rw [if_neg c]
      rw [lk1 (show (f == g) = false from by simpa using fun z => c z.symm)] at h
      rw [putF_self h]
section
variable {p : Pm} {G : Hp}
theorem DnF.at {f : Str} {d : D} : ∀ {fs : List (Str × D)} {xs : List (Str × V)} {F : Hp}, DnF p G fs xs F → fs.lookup f = some d → ∃ w Fj Fo, xs.lookup f = some w ∧ Dn p G d w Fj ∧ Dj Fj Fo ∧ F = un Fj Fo ∧ xs.length = fs.length ∧
    ∀ G' d' w' Fj', Same G G' → Dn p G' d' w' Fj' → Dj Fj' Fo → DnF p G' (putG f d' fs) (putF f w' xs) (un Fj' Fo)
  | [], _, _, _, e => nomatch e
  | (g, d0) :: fs, _, _, h, e => by
    obtain ⟨u, us, A, B, rfl, h1, h2, h3, rfl⟩ := h
    have ll := dnf_len h2
    cases q : (f == g) with
    | true =>
      have hg : g = f := (eq_of_beq q).symm
      subst hg
      rw [lk0] at e
      cases e
      refine ⟨u, A, B, lk0, h1, h3, rfl, by simp [ll], fun G' d' w' Fj' sg k dj => ?_⟩
      show DnF p G' (if g = g then (g, d') :: fs else _) (if g = g then (g, w') :: us else _) _
      rw [if_pos rfl, if_pos rfl]
      exact ⟨w', us, Fj', B, rfl, k, DnF.mono sg _ h2, dj, rfl⟩
    | false =>
      rw [lk1 q] at e
      have hne : ¬ g = f := fun c => by rw [c] at q; simp at q
      obtain ⟨w, Fj, Fo, k1, k2, k3, rfl, _, k4⟩ := DnF.at h2 e
      obtain ⟨a1, a2⟩ := dj_un h3
      refine ⟨w, Fj, un A Fo, by rw [lk1 q]; exact k1, k2, un_dj a1.symm k3, ?_, by simp [ll], fun G' d' w' Fj' sg k dj => ?_⟩
      · rw [← un_assoc, un_comm a1, un_assoc]
      · obtain ⟨j1, j2⟩ := dj_un dj
        show DnF p G' (if g = f then _ else (g, d0) :: putG f d' fs) (if g = f then _ else (g, u) :: putF f w' us) _
        rw [if_neg hne, if_neg hne]
        refine ⟨u, _, A, un Fj' Fo, rfl, Dn.mono sg _ h1, k4 G' d' w' Fj' sg k j2, un_dj j1.symm a2, ?_⟩
        rw [← un_assoc, ← un_assoc, un_comm j1]
end
section
variable {p : Pm} {env : List Sl} {te ta tb tk : TE} {t tz : TS} {r : D → Rs} [Dl r] {α β γ ρ : Type} [Enc α] [Enc β] [Enc γ] {Po : Post ρ} {i : Nat} {x : α}
/-- the place of a field -/
theorem lens_fd {g : Option β} {put : β → Option α} {get : β → Option γ} {rep : β → γ → Option β} {f : Str} (L : Lens p env te i x g put)
    (hb : ∀ b c, get b = some c → ∃ cl fs, enc b = .ins cl fs ∧ fs.lookup f = some (enc c) ∧ Cls p.K (p.cl cl) ∧ NoAttr p.K (p.cl cl) f ∧ ∀ c' b', rep b c' = some b' → enc b' = .ins cl (putG f (enc c') fs)) :
    Lens p env (tFld p.K te f) i x (g.bind get) (fun c => g.bind fun b => (rep b c).bind put) where
  run := fun {σ G H F v c} h0 h1 h2 h3 e => by
    obtain ⟨b, e1, e2⟩ := bind_some e
    obtain ⟨cl, fs, eb, hl, c1, c2, c3⟩ := hb b c e2
    obtain ⟨u, Fe, Fr, q1, q2, q3, rfl, q4⟩ := L.run h0 h1 h2 h3 e1
    rw [eb] at q2
    obtain ⟨a, dx, xs, F', rfl, hF, d2, rfl⟩ := q2
    obtain ⟨w, Fj, Fo, k0, z2, z3, rfl, _, z4⟩ := DnF.at hF hl
    have na := un_none.mp d2
    have eU : upd (un Fj Fo) a (.ins (p.cl cl) dx xs) = un Fj (upd Fo a (.ins (p.cl cl) dx xs)) := un_upd na.1
    have hH : H a = some (.ins (p.cl cl) dx xs) := h3 _ _ (same_un1 _ _ upd_same)
    rw [eU] at q3
    have dFr : Dj Fj Fr := fun b o h => q3 b o (by unfold un; rw [h])
    have djO : Dj Fj (upd Fo a (.ins (p.cl cl) dx xs)) := fun b o h => by
      by_cases cb : b = a
      · subst cb; rw [na.1] at h; cases h
      · rw [upd_ne cb]; exact z3 b o h
    have dOr : Dj (upd Fo a (.ins (p.cl cl) dx xs)) Fr := fun b o h => q3 b o (same_un2 djO _ _ h)
    refine ⟨w, Fj, un (upd Fo a (.ins (p.cl cl) dx xs)) Fr, fun Q qq => q1 _ ⟨a, _, dx, _, w, rfl, hH, c1, c2, k0, qq⟩, z2, un_dj djO dFr, by rw [eU, un_assoc], fun G' c' x' Fj' sg e' k1 k2 => ?_⟩
    rw [e1] at e'
    obtain ⟨b', s1, s2⟩ := bind_some (show (rep b c').bind put = some x' from e')
    obtain ⟨k3, k4⟩ := dj_un k2
    obtain ⟨k5, k6⟩ := dj_upd k3
    have n2 : Dn p G' (enc b') (.ref a) (un Fj' (upd Fo a (.ins (p.cl cl) dx xs))) := by
      rw [c3 c' b' s1]
      have nf := z4 G' _ w Fj' sg k1 k5
      rw [putF_self k0] at nf
      exact ⟨a, dx, _, un Fj' Fo, rfl, nf, un_none.mpr ⟨k6, na.2⟩, (un_upd k6).symm⟩
    have n3 := q4 _ _ _ _ sg s2 n2 (fun b o h => by
      rcases un_some h with h | h
      · exact k4 b o h
      · exact dOr b o h)
    rw [un_assoc] at n3
    exact n3
/-- x.f = e, f there -/
theorem k_fldP {f : Str} {me : Option β} {rep : α → β → Option α} {rest : α → Option ρ} (h : env[i]? = some (.rs (r (enc x))))
    (hx : ∀ y x', rep x y = some x' → ∃ c fs d, enc x = .ins c fs ∧ fs.lookup f = some d ∧ Cls p.K (p.cl c) ∧ NoAttr p.K (p.cl c) f ∧ fs.length < 1000 ∧ enc x' = .ins c (putG f (enc y) fs)) (he : EvN p te env me)
    (k : ∀ x', Bk p tz (env.set i (.rs (r (enc x')))) (rest x') Po) : Bk p (tSeq (sFld p.K (tVar i) te f) tz) env (me.bind fun y => (rep x y).bind rest) Po := fun q e G0 H0 σ G H st D z => by
  obtain ⟨y, e1, e⟩ := bind_some e
  obtain ⟨x', e2, e⟩ := bind_some e
  obtain ⟨c, fs, d, ex, hl, c1, c2, c3, ex'⟩ := hx y x' e2
  refine he y e1 G0 H0 σ G H st _ fun v G1 H1 N g1 sN nN r1 => ?_
  refine st.writeG g1 h fun v0 F b1 b2 b3 b4 wr => ?_
  have b2' := Dl.of b2
  rw [ex] at b2'
  obtain ⟨a, dx, xs, F', rfl, hF, d2, rfl⟩ := b2'
  obtain ⟨w, Fj, Fo, k0, z2, z3, rfl, zl, z4⟩ := DnF.at hF hl
  have na := un_none.mp d2
  have hH : H1 a = some (.ins (p.cl c) dx xs) := g1.h _ _ (b3 _ _ upd_same)
  refine ⟨.ref a, b1, a, _, dx, xs, rfl, hH, c1, c2, by rw [zl]; exact c3, ?_⟩
  have sFo : ∀ b o, Fo b = some o → upd (un Fj Fo) a (.ins (p.cl c) dx xs) b = some o := fun b o q => by
    have cb : b ≠ a := fun cb => by subst cb; rw [na.2] at q; cases q
    rw [upd_ne cb]
    exact same_un2 z3 _ _ q
  have Na : N a = none := by
    cases y : N a with
    | none => rfl
    | some o =>
      have := (nN a o y).1
      rw [b3 _ _ upd_same] at this; cases this
  have djN : Dj N Fo := fun b o q => by
    cases y : Fo b with
    | none => rfl
    | some u =>
      have := (nN b o q).1
      rw [b3 b u (sFo b u y)] at this; cases this
  have nf := z4 G1 _ v N (.refl _) r1 djN
  have es : σ = σ.set i (some (.ref a)) := by
    obtain ⟨hi, he⟩ := List.getElem?_eq_some_iff.mp b1
    rw [← he, List.set_getElem_self]
  rw [es]
  refine k x' q e G0 H0 _ G1 _ (wr (r (enc x')) (.ref a) (upd (un N Fo) a (.ins (p.cl c) dx (putF f v xs))) (upd H1 a (.ins (p.cl c) dx (putF f v xs))) ⟨fun b o z => ?_, fun b z1 z2 => ?_, fun b o z1 z2 => ?_⟩ (Dl.back b2 ?_)) D (Po.mono g1.g z)
  · by_cases cb : b = a
    · subst cb; rw [upd_same] at z ⊢; exact z
    · rw [upd_ne cb] at z ⊢
      rcases un_some z with z | z
      · exact sN _ _ z
      · exact g1.h _ _ (b3 _ _ (sFo b o z))
  · have cb : b ≠ a := fun cb => by subst cb; rw [upd_same] at z1; cases z1
    rw [upd_ne cb]
  · have cb : b ≠ a := fun cb => by subst cb; rw [upd_same] at z2; cases z2
    rw [upd_ne cb] at z1
    rcases un_some z1 with z1 | z1
    · exact nN b o z1
    · rw [sFo b o z1] at z2; cases z2
  · rw [ex']
    exact ⟨a, dx, _, un N Fo, rfl, nf, un_none.mpr ⟨Na, na.2⟩, rfl⟩
/-- x.f += e, a number -/
theorem k_fldAug {f : Str} {get : α → Option Int} {me : Option Int} {rep : α → Int → Option α} {rest : α → Option ρ} (h : env[i]? = some (.rs (r (enc x))))
    (hx : ∀ n, get x = some n → ∃ c fs, enc x = .ins c fs ∧ fs.lookup f = some (.int n) ∧ Cls p.K (p.cl c) ∧ NoAttr p.K (p.cl c) f ∧ fs.length < 1000 ∧ ∀ y x', rep x y = some x' → enc x' = .ins c (putG f (.int y) fs)) (he : Ev p false te env me)
    (k : ∀ x', Bk p tz (env.set i (.rs (r (enc x')))) (rest x') Po) : Bk p (tSeq (sFldAug p.K (tVar i) te rAdd f) tz) env ((get x).bind fun n => me.bind fun y => (rep x (n + y)).bind rest) Po := fun q e G0 H0 σ G H st D z => by
  obtain ⟨n, e0, e⟩ := bind_some e
  obtain ⟨y, e1, e⟩ := bind_some e
  obtain ⟨x', e2, e⟩ := bind_some e
  obtain ⟨c, fs, ex, hl, c1, c2, c3, c4⟩ := hx n e0
  have ex' := c4 _ _ e2
  refine st.writeG (.refl st.gr.s) h fun v0 F b1 b2 b3 b4 _ => ?_
  have b2' := Dl.of b2
  rw [ex] at b2'
  obtain ⟨a, dx, xs, F', rfl, hF, d2, eF⟩ := b2'
  obtain ⟨w, Fj, Fo, k0, z2, z3, eF', zl, z4⟩ := DnF.at hF hl
  obtain ⟨rfl, eFj⟩ := (z2 : w = .int n ∧ Fj = nil)
  subst eFj
  have eFo : F' = Fo := by rw [eF']; funext b; unfold un; rfl
  subst eFo
  have hH : H a = some (.ins (p.cl c) dx xs) := b3 _ _ (by rw [eF]; exact upd_same)
  refine ⟨.ref a, b1, a, _, dx, xs, _, rfl, hH, c1, c2, k0, ?_⟩
  refine he y e1 G0 H0 σ G H st _ fun v G1 H1 g1 r1 => ⟨n, y, rfl, r1, ?_⟩
  refine ⟨dx, xs, g1.h _ _ hH, by rw [zl]; exact c3, ?_⟩
  refine st.writeG g1 h fun v1 F1 b1' b2' b3' b4' wr => ?_
  rw [b1] at b1'
  cases b1'
  have hF1 : F1 a = some (.ins (p.cl c) dx xs) ∧ DnF p G1 (putG f (.int (n + y)) fs) (putF f (.int (n + y)) xs) (minus F1 (sing a (.ins (p.cl c) dx xs))) := by
    have b5 := Dl.of b2'
    rw [ex] at b5
    obtain ⟨a', dx', xs', F2, ea, hF2, d22, rfl⟩ := b5
    cases ea
    have hx2 : H a = some (.ins (p.cl c) dx' xs') := b3' _ _ upd_same
    rw [hH] at hx2
    cases hx2
    obtain ⟨w2, Fj2, Fo2, l0, l2, l3, eF2, _, l4⟩ := DnF.at hF2 hl
    obtain ⟨rfl, eFj⟩ := (l2 : w2 = .int n ∧ Fj2 = nil)
    subst eFj
    have : F2 = Fo2 := by rw [eF2]; funext b; unfold un; rfl
    subst this
    refine ⟨upd_same, ?_⟩
    have nf := l4 G1 (.int (n + y)) (.int (n + y)) nil (.refl _) ⟨rfl, rfl⟩ dj_nil
    have e3 : un nil F2 = minus (upd F2 a (.ins (p.cl c) dx xs)) (sing a (.ins (p.cl c) dx xs)) := by
      funext b
      unfold un minus sing
      by_cases cb : b = a
      · subst cb; rw [upd_same]; exact d22
      · rw [upd_ne cb, upd_ne cb]; rfl
    rw [e3] at nf
    exact nf
  obtain ⟨hFa, hF3⟩ := hF1
  have ma : minus F1 (sing a (.ins (p.cl c) dx xs)) a = none := by
    unfold minus sing; rw [upd_same]
  have es : σ = σ.set i (some (.ref a)) := by
    obtain ⟨hi, he⟩ := List.getElem?_eq_some_iff.mp b1
    rw [← he, List.set_getElem_self]
  rw [es]
  refine k x' q e G0 H0 _ G1 _ (wr (r (enc x')) (.ref a) (upd (minus F1 (sing a (.ins (p.cl c) dx xs))) a (.ins (p.cl c) dx (putF f (.int (n + y)) xs))) (upd H1 a (.ins (p.cl c) dx (putF f (.int (n + y)) xs))) ⟨fun b o z => ?_, fun b z1 z2 => ?_, fun b o z1 z2 => ?_⟩ (Dl.back b2' ?_)) D (Po.mono g1.g z)
  · by_cases cb : b = a
    · subst cb; rw [upd_same] at z ⊢; exact z
    · rw [upd_ne cb] at z ⊢
      exact g1.h _ _ (b3' _ _ (minus_some z).2)
  · have cb : b ≠ a := fun cb => by subst cb; rw [upd_same] at z2; cases z2
    rw [upd_ne cb]
  · have cb : b ≠ a := fun cb => by subst cb; rw [hFa] at z2; cases z2
    rw [upd_ne cb] at z1
    rw [(minus_some z1).2] at z2; cases z2
  · rw [ex']
    exact ⟨a, dx, _, _, rfl, hF3, ma, rfl⟩
end
end PU

set_option Elab.async false
set_option maxRecDepth 100000
set_option linter.all false
/-! PU29: expressions, calls that change what is one's own; functions with what is lent to them. -/
namespace PU
open PySem L2
open Enc
section
variable {p : Pm} {env env' : List Sl} {te ta tb tk : TE} {t tz u : TS} {tt tu : TT} {α β γ ρ st s s' : Type} [Enc α] [Enc β] [Enc γ] {Po : Post ρ} {i j : Nat} {e1 : st → List Sl}
/-- te gives m, and the slots become those of e1 -/
def EvE (p : Pm) (te : TE) (env : List Sl) {α st : Type} [Enc α] (e1 : st → List Sl) (m : Option (α × st)) : Prop :=
  ∀ z, m = some z → ∀ G0 H0 σ G H, Sts p G0 H0 env σ G H → ∀ Q : VK, (∀ v G' H', Sts p G0 H0 (e1 z.2) σ G' H' → Same G G' → Rp p G' (enc z.1) v → Q v H') → te σ H Q
def EtE (p : Pm) (tt : TT) (env : List Sl) {st : Type} (e1 : st → List Sl) (m : Option (Bool × st)) : Prop :=
  ∀ z, m = some z → ∀ G0 H0 σ G H, Sts p G0 H0 env σ G H → ∀ Q : Bool → Hp → Prop, (∀ G' H', Sts p G0 H0 (e1 z.2) σ G' H' → Same G G' → Q z.1 H') → tt σ H Q
theorem ee_opL {r : R2} {m : Option (α × st)} {mb : st → Option β} {f : α → β → Option γ} (ha : EvE p ta env e1 m) (hb : ∀ s, Ev p false tb (e1 s) (mb s)) (hr : ∀ x y, RvOp p false r (enc x) (enc y) (f x y)) :
    EvE p (tOp r ta tb) env e1 (m.bind fun z => (mb z.2).bind fun y => (f z.1 y).bind fun w => some (w, z.2)) := fun w e G0 H0 σ G H S Q k => by
  obtain ⟨z, ez, e⟩ := bind_some e
  obtain ⟨y, ey, e⟩ := bind_some e
  obtain ⟨x, ex, e⟩ := bind_some e
  cases e
  refine ha z ez G0 H0 σ G H S _ fun v G1 H1 S1 g1 r1 => ?_
  refine hb z.2 y ey G0 H0 σ G1 H1 S1 _ fun w G2 H2 g2 r2 => ?_
  refine hr z.1 y x ex G2 H2 v w g2.s (Rp.mono g2.g _ r1) r2 Q fun u G3 H3 g3 r3 => ?_
  exact k u G3 H3 ((S1.step g2).step g3) ((g1.trans g2.g).trans g3.g) r3
theorem ee_opR {r : R2} {ma : Option α} {m : Option (β × st)} {f : α → β → Option γ} (ha : Ev p false ta env ma) (hb : EvE p tb env e1 m) (hr : ∀ x y, RvOp p false r (enc x) (enc y) (f x y)) :
    EvE p (tOp r ta tb) env e1 (ma.bind fun x => m.bind fun z => (f x z.1).bind fun w => some (w, z.2)) := fun w e G0 H0 σ G H S Q k => by
  obtain ⟨x, ex, e⟩ := bind_some e
  obtain ⟨z, ez, e⟩ := bind_some e
  obtain ⟨y, ey, e⟩ := bind_some e
  cases e
  refine ha x ex G0 H0 σ G H S _ fun v G1 H1 g1 r1 => ?_
  refine hb z ez G0 H0 σ G1 H1 (S.step g1) _ fun w G2 H2 S2 g2 r2 => ?_
  refine hr x z.1 y ey G2 H2 v w S2.gr.s (Rp.mono g2 _ r1) r2 Q fun u G3 H3 g3 r3 => ?_
  exact k u G3 H3 (S2.step g3) ((g1.g.trans g2).trans g3.g) r3
theorem ee_lt {m : Option (Int × st)} {mb : st → Option Int} (ha : EvE p ta env e1 m) (hb : ∀ s, Ev p false tb (e1 s) (mb s)) : EvE p (tOp (rI0 fun i j => .bl (decide (i < j))) ta tb) env e1 (m.bind fun z => (mb z.2).bind fun y => some (decide (z.1 < y), z.2)) :=
  ee_opL (f := fun x y => some (decide (x < y))) ha hb fun _ _ => rv_IB (h := fun i j => decide (i < j))
theorem te_test {m : Option (Bool × st)} (h : EvE p te env e1 m) : EtE p (tTest te) env e1 m := fun z ez G0 H0 σ G H S Q k =>
  h z ez G0 H0 σ G H S _ fun v G1 H1 S1 g1 r1 => ⟨z.1, r1, k G1 H1 S1 g1⟩
theorem te_B {m : Option (Bool × st)} (h : EvE p te env e1 m) : EtE p (tB te) env e1 m := fun z ez G0 H0 σ G H S Q k =>
  h z ez G0 H0 σ G H S _ fun v G1 H1 S1 g1 r1 => ⟨z.1, r1, k G1 H1 S1 g1⟩
theorem te_not {m : Option (Bool × st)} (h : EtE p tt env e1 m) : EtE p (tNot tt) env e1 (m.bind fun z => some (!z.1, z.2)) := fun w e G0 H0 σ G H S Q k => by
  obtain ⟨z, ez, e⟩ := bind_some e
  cases e
  exact h z ez G0 H0 σ G H S _ fun G1 H1 S1 g1 => k G1 H1 S1 g1
theorem te_or {m : Option (Bool × st)} {m2 : st → Option Bool} (h1 : EtE p tt env e1 m) (h2 : ∀ s, EvT p tu (e1 s) (m2 s)) : EtE p (tOr tt tu) env e1 (m.bind fun z => if z.1 = true then some (true, z.2) else (m2 z.2).bind fun b => some (b, z.2)) := fun w e G0 H0 σ G H S Q k => by
  obtain ⟨z, ez, e⟩ := bind_some e
  refine h1 z ez G0 H0 σ G H S _ fun G1 H1 S1 g1 => ?_
  show if z.1 = true then _ else _
  split at e
  · rename_i c
    rw [if_pos c]
    cases e
    exact k G1 H1 S1 g1
  · rename_i c
    rw [if_neg c]
    obtain ⟨b, eb, e⟩ := bind_some e
    cases e
    exact h2 z.2 b eb G0 H0 σ G1 H1 S1 _ fun G2 H2 g2 => k G2 H2 (S1.step g2) (g1.trans g2.g)
theorem te_orE {m : Option (Bool × st)} {m2 : st → Option (Bool × st)} (h1 : EtE p tt env e1 m) (h2 : ∀ s, EtE p tu (e1 s) e1 (m2 s)) : EtE p (tOr tt tu) env e1 (m.bind fun z => if z.1 = true then some (true, z.2) else m2 z.2) := fun w e G0 H0 σ G H S Q k => by
  obtain ⟨z, ez, e⟩ := bind_some e
  refine h1 z ez G0 H0 σ G H S _ fun G1 H1 S1 g1 => ?_
  show if z.1 = true then _ else _
  split at e
  · rename_i c
    rw [if_pos c]
    cases e
    exact k G1 H1 S1 g1
  · rename_i c
    rw [if_neg c]
    exact h2 z.2 w e G0 H0 σ G1 H1 S1 _ fun G2 H2 S2 g2 => k G2 H2 S2 (g1.trans g2)
theorem te_orR {m : Option Bool} {s0 : st} {m2 : Option (Bool × st)} (h1 : EvT p tt env m) (h2 : EtE p tu env e1 m2) (h0 : e1 s0 = env) : EtE p (tOr tt tu) env e1 (m.bind fun b => if b = true then some (true, s0) else m2) := fun w e G0 H0 σ G H S Q k => by
  obtain ⟨b, eb, e⟩ := bind_some e
  refine h1 b eb G0 H0 σ G H S _ fun G1 H1 g1 => ?_
  show if b = true then _ else _
  split at e
  · rename_i c
    rw [if_pos c]
    cases e
    exact k G1 H1 (by rw [h0]; exact S.step g1) g1.g
  · rename_i c
    rw [if_neg c]
    exact h2 w e G0 H0 σ G1 H1 (S.step g1) _ fun G2 H2 S2 g2 => k G2 H2 S2 (g1.g.trans g2)
/-! ### statements -/
theorem k_asgE {m : Option (α × st)} {rest : α → st → Option ρ} (h : EvE p te env e1 m) (k : ∀ x s, Bk p tz ((e1 s).set j (.va (enc x))) (rest x s) Po) : Bk p (tSeq (tAsg te (gName j)) tz) env (m.bind fun z => rest z.1 z.2) Po := fun q e G0 H0 σ G H S D w => by
  obtain ⟨z, ez, e⟩ := bind_some e
  exact h z ez G0 H0 σ G H S _ fun v G1 H1 S1 g1 r1 => k z.1 z.2 q e G0 H0 _ G1 H1 (S1.set_va r1) D (Po.mono g1 w)
theorem k_expE {m : Option (α × st)} {rest : st → Option ρ} (h : EvE p te env e1 m) (k : ∀ s, Bk p tz (e1 s) (rest s) Po) : Bk p (tSeq (tDrop te) tz) env (m.bind fun z => rest z.2) Po := fun q e G0 H0 σ G H S D w => by
  obtain ⟨z, ez, e⟩ := bind_some e
  exact h z ez G0 H0 σ G H S _ fun v G1 H1 S1 g1 r1 => k z.2 q e G0 H0 _ G1 H1 S1 D (Po.mono g1 w)
/-- posts that ask after what is returned alone -/
class Rto (Po : Post ρ) : Prop where
  rt : ∀ {r : ρ} {G0 H0 G : Hp} {D D' : Ends}, D'.rt = D.rt → Po.P r G0 H0 G D → Po.P r G0 H0 G D'
instance {nw : Bool} : Rto (pR p nw β) := ⟨fun e h v G' H' g r => by rw [e]; exact h v G' H' g r⟩
instance : Rto (pD p β) := ⟨fun e h v G' H' N g a b c => by rw [e]; exact h v G' H' N g a b c⟩
theorem k_ifE [Rto Po] {m : Option (Bool × st)} {ma mb : st → Option ρ} (h : EtE p tt env e1 m) (h1 : ∀ s, Bk p t (e1 s) (ma s) Po) (h2 : ∀ s, Bk p tz (e1 s) (mb s) Po) :
    Bk p (tSeq (tIfS tt t tNext) tz) env (m.bind fun z => if z.1 = true then ma z.2 else mb z.2) Po := fun q e G0 H0 σ G H S D w => by
  obtain ⟨z, ez, e⟩ := bind_some e
  refine h z ez G0 H0 σ G H S _ fun G1 H1 S1 g1 => ?_
  show if z.1 = true then _ else _
  split at e
  · rename_i c
    rw [if_pos c]
    exact h1 z.2 q e G0 H0 σ G1 H1 S1 _ (Rto.rt (by rfl) (Po.mono g1 w))
  · rename_i c
    rw [if_neg c]
    exact h2 z.2 q e G0 H0 σ G1 H1 S1 D (Po.mono g1 w)
/-- the same without a change -/
theorem k_ifP [Rto Po] {mc : Option Bool} {ma mb : Option ρ} (h : EvT p tt env mc) (h1 : Bk p t env ma Po) (h2 : Bk p tz env mb Po) :
    Bk p (tSeq (tIfS tt t tNext) tz) env (mc.bind fun c => if c = true then ma else mb) Po := fun q e G0 H0 σ G H S D w => by
  obtain ⟨c, ec, e⟩ := bind_some e
  refine h c ec G0 H0 σ G H S _ fun G1 H1 g1 => ?_
  show if c = true then _ else _
  split at e
  · rename_i c
    rw [if_pos c]
    exact h1 q e G0 H0 σ G1 H1 (S.step g1) _ (Rto.rt (by rfl) (Po.mono g1.g w))
  · rename_i c
    rw [if_neg c]
    exact h2 q e G0 H0 σ G1 H1 (S.step g1) D (Po.mono g1.g w)
/-- it goes on, or returns as R tells -/
def pBG (p : Pm) (R : Post β) (envN : s → List Sl) : Post (Rr s β) where
  P := fun r G0 H0 G D => match r with
    | .nx x => (pN p envN).P x G0 H0 G D
    | .rt y => R.P y G0 H0 G D
  mono := fun {r _ _ _ _ _} e h => match r with
    | .nx _ => (pN p envN).mono e h
    | .rt _ => R.mono e h
variable {R : Post β} {envN envS : s → List Sl}
theorem k_retG {m : Option β} (h : Bk p t env m R) : Bk p t env (m.bind fun y => some (Rr.rt y)) (pBG p R envN) := fun r e G0 H0 σ G H S D q => by
  obtain ⟨y, e1, e⟩ := bind_some e
  cases e
  exact h y e1 G0 H0 σ G H S D q
theorem k_endG {x : s} (h : leE env (envN x)) : Bk p tNext env (some (Rr.nx (β := β) x)) (pBG p R envN) := fun r e G0 H0 σ G H S D q => by
  cases e
  exact q σ G H (S.le h) (.refl _)
theorem k_ifG [Rto R] {mc : Option Bool} {ma : Option β} {mb : Option (Rr s β)} (h : EvT p tt env mc) (h1 : Bk p t env ma R) (h2 : Bk p tz env mb (pBG p R envN)) :
    Bk p (tSeq (tIfS tt t tNext) tz) env (mc.bind fun c => if c = true then ma.bind (fun y => some (Rr.rt y)) else mb) (pBG p R envN) := fun r e G0 H0 σ G H S D q => by
  obtain ⟨c, ec, e⟩ := bind_some e
  refine h c ec G0 H0 σ G H S _ fun G1 H1 g1 => ?_
  show if c = true then _ else _
  split at e
  · rename_i c
    rw [if_pos c]
    obtain ⟨y, e2, e⟩ := bind_some e
    cases e
    exact h1 y e2 G0 H0 σ G1 H1 (S.step g1) _ (Rto.rt (by rfl) (R.mono g1.g q))
  · rename_i c
    rw [if_neg c]
    exact h2 r e G0 H0 σ G1 H1 (S.step g1) D ((pBG p R envN).mono g1.g q)
theorem k_ifEG [Rto R] {m : Option (Bool × st)} {ma : st → Option β} {mb : st → Option (Rr s β)} (h : EtE p tt env e1 m) (h1 : ∀ x, Bk p t (e1 x) (ma x) R) (h2 : ∀ x, Bk p tz (e1 x) (mb x) (pBG p R envN)) :
    Bk p (tSeq (tIfS tt t tNext) tz) env (m.bind fun z => if z.1 = true then (ma z.2).bind (fun y => some (Rr.rt y)) else mb z.2) (pBG p R envN) := fun r e G0 H0 σ G H S D q => by
  obtain ⟨z, ez, e⟩ := bind_some e
  refine h z ez G0 H0 σ G H S _ fun G1 H1 S1 g1 => ?_
  show if z.1 = true then _ else _
  split at e
  · rename_i c
    rw [if_pos c]
    obtain ⟨y, e2, e⟩ := bind_some e
    cases e
    exact h1 z.2 y e2 G0 H0 σ G1 H1 S1 _ (Rto.rt (by rfl) (R.mono g1 q))
  · rename_i c
    rw [if_neg c]
    exact h2 z.2 r e G0 H0 σ G1 H1 S1 D ((pBG p R envN).mono g1 q)
theorem k_seqRG [Rto R] {m1 : Option (Rr s β)} {rest : s → Option β} (h1 : Bk p t env m1 (pBG p R envN)) (h2 : ∀ x, Bk p tz (envN x) (rest x) R) :
    Bk p (tSeq t tz) env (m1.bind (Rr.goR rest)) R := fun r e G0 H0 σ G H S D q => by
  obtain ⟨x, e1, e⟩ := bind_some e
  cases x with
  | nx x => exact h1 (.nx x) e1 G0 H0 σ G H S _ fun σ' G' H' s' sg => h2 x r e G0 H0 σ' G' H' s' D (R.mono sg q)
  | rt z =>
    have ez : z = r := Option.some.inj e
    subst ez
    exact h1 (.rt z) e1 G0 H0 σ G H S _ (Rto.rt (Po := R) (by rfl) q)
theorem k_seqBG [Rto R] {envM : s' → List Sl} {m1 : Option (Rr s β)} {rest : s → Option (Rr s' β)} (h1 : Bk p t env m1 (pBG p R envN)) (h2 : ∀ x, Bk p tz (envN x) (rest x) (pBG p R envM)) :
    Bk p (tSeq t tz) env (m1.bind (Rr.goB rest)) (pBG p R envM) := fun r e G0 H0 σ G H S D q => by
  obtain ⟨x, e1, e⟩ := bind_some e
  cases x with
  | nx x => exact h1 (.nx x) e1 G0 H0 σ G H S _ fun σ' G' H' s' sg => h2 x r e G0 H0 σ' G' H' s' D ((pBG p R envM).mono sg q)
  | rt y =>
    cases e
    exact h1 (.rt y) e1 G0 H0 σ G H S _ (Rto.rt (Po := R) (by rfl) q)
theorem k_forG [Rto R] {wi : TI} {g : TG} {js : List Nat} {mx : Option (List α)} {f : s → α → Option (Rr s β)} {envB : s → α → List Sl} {x0 : s} (hi : EvI p wi env mx) (h0 : leE env (envS x0)) (hg : ∀ x a, Tg p g (enc a) (envS x) (envB x a) js)
    (hb : ∀ x a, Bk p t (envB x a) (f x a) (pBG p R envS)) : Bk p (tFor wi g t) env (mx.bind fun xs => forB f x0 xs) (pBG p R envS) := fun r e G0 H0 σ G H st D q => by
  obtain ⟨xs, e1, e⟩ := bind_some e
  refine hi xs e1 G0 H0 σ G H st _ fun J G1 H1 g1 it => ?_
  refine ⟨fun i m σ' H' => m = xs.length - i ∧ i ≤ xs.length ∧ ∃ x G', forB f x (xs.drop i) = some r ∧ Sts p G0 H0 (envS x) σ' G' H' ∧ Same G1 G', ⟨_, rfl, Nat.zero_le _, x0, G1, e, (st.step g1).le h0, .refl _⟩, ?_⟩
  rintro i m σ' H' ⟨rfl, hle, x, G', hf, s', sg⟩
  obtain ⟨go, stop⟩ := it G' H' sg s'.gr.s i
  by_cases hlt : i < xs.length
  · have hx : xs[i]? = some xs[i] := by simp [hlt]
    obtain ⟨gi, yi⟩ := go (enc xs[i]) (by rw [List.getElem?_map, hx]; rfl)
    rw [List.drop_eq_getElem_cons hlt] at hf
    obtain ⟨y, hy, hf⟩ := bind_some hf
    refine .inr ⟨gi, fun σ2 H2 => ∃ x G', forB f x (xs.drop (i + 1)) = some r ∧ Sts p G0 H0 (envS x) σ2 G' H2 ∧ Same G1 G', fun σ2 H2 z => ⟨xs.length - (i + 1), by omega, rfl, hlt, z⟩, fun v H2 yv => ?_⟩
    obtain ⟨G2, g3, r3⟩ := yi v H2 yv
    refine hg x xs[i] G0 H0 σ' G2 H2 v (s'.step g3) r3 _ fun σ3 s3 _ => ?_
    refine hb x xs[i] y hy G0 H0 σ3 G2 H2 s3 _ ?_
    cases y with
    | nx y => exact fun σ4 G4 H4 s4 sg4 => ⟨y, G4, hf, s4, (sg.trans g3.g).trans sg4⟩
    | rt y =>
      cases hf
      exact Rto.rt (Po := R) (by rfl) (R.mono ((g1.g.trans sg).trans g3.g) q)
  · have ei : i = xs.length := by omega
    subst ei
    rw [List.drop_length] at hf
    cases hf
    exact .inl ⟨stop (by simp) (by simp), q σ' G' H' s' (g1.g.trans sg)⟩
end
/-! ### functions -/
section
variable {p : Pm} {env : List Sl} {te ta tb : TE} {t tz : TS} {α β γ δ st τ : Type} [Enc α] [Enc β] [Enc γ] [Enc δ] [Enc st]
/-- a function: what is its argument j is lent to it, and comes back changed -/
def spM (p : Pm) (j : Nat) {τ γ st : Type} [Enc γ] [Enc st] (ea : τ → List D) (f : τ → st → Option (γ × st)) : Sp := fun vs H Q _ => ∃ G H0 F y a s z, vs[j]? = some (.ref y) ∧ RpA p G (ea a) (vs.eraseIdx j) ∧ Same G H ∧ Same H0 H ∧ Same F H ∧ (∀ b o, F b = some o → G b = none ∧ H0 b = none) ∧ Dn p G (enc s) (.ref y) F ∧ f a s = some z ∧
  ∀ v G' H' F', Gr G G' H0 H' → Same F' H' → (∀ b o, F' b = some o → G' b = none ∧ H0 b = none) → Dn p G' (enc z.2) (.ref y) F' → Rp p G' (enc z.1) v → Q v H'
def pM (p : Pm) (y : Addr) (γ st : Type) [Enc γ] [Enc st] : Post (γ × st) where
  P := fun z G0 H0 _ D => ∀ v G' H' F', Gr G0 G' H0 H' → Same F' H' → (∀ b o, F' b = some o → G' b = none ∧ H0 b = none) → Dn p G' (enc z.2) (.ref y) F' → Rp p G' (enc z.1) v → D.rt v H'
  mono := fun _ h => h
instance {y : Addr} : Rto (pM p y γ st) := ⟨fun e h v G' H' F' g a b c d => by rw [e]; exact h v G' H' F' g a b c d⟩
theorem k_retM {i : Nat} {y : Addr} {s : st} {me : Option γ} (h0 : env[i]? = some (.rs (dnAt y (enc s)))) (h : Ev p false te env me) : Bk p (tRet te) env (me.bind fun x => some (x, s)) (pM p y γ st) := fun r e G0 H0 σ G H S D q => by
  obtain ⟨x, e1, e⟩ := bind_some e
  cases e
  refine h x e1 G0 H0 σ G H S _ fun v G1 H1 g1 r1 => ?_
  have S1 := S.step g1
  obtain ⟨Fs, f⟩ := S1.rs
  obtain ⟨v0, a1, ⟨rfl, a2⟩, a3, a4⟩ := f.wh i _ h0
  exact q v G1 H1 (Fs i) S1.gr a3 a4 a2 r1
theorem k_retME {i : Nat} {y : Addr} {m : Option (γ × st)} {e1 : st → List Sl} (h0 : ∀ s, (e1 s)[i]? = some (.rs (dnAt y (enc s)))) (h : EvE p te env e1 m) : Bk p (tRet te) env m (pM p y γ st) := fun r e G0 H0 σ G H S D q => by
  refine h r e G0 H0 σ G H S _ fun v G1 H1 S1 g1 r1 => ?_
  obtain ⟨Fs, f⟩ := S1.rs
  obtain ⟨v0, a1, ⟨rfl, a2⟩, a3, a4⟩ := f.wh i _ (h0 r.2)
  exact q v G1 H1 (Fs i) S1.gr a3 a4 a2 r1
theorem sts_startM {N : List Str} {G H0 H F : Hp} {ds : List D} {vs : List V} {j n : Nat} {y : Addr} {d : D} (sG : Same G H) (s0 : Same H0 H) (sF : Same F H) (fr : ∀ b o, F b = some o → G b = none ∧ H0 b = none) (hv : vs[j]? = some (.ref y)) (r : RpA p G ds (vs.eraseIdx j)) (dn_ : Dn p G d (.ref y) F) (hN : N.length = ds.length + 1 + n) :
    Sts p G H0 ((ds.map Sl.va).insertIdx j (.rs (dnAt y d)) ++ List.replicate n .fr) (L2.start N vs) G H := by
  have hl := r.length
  have hj : j < vs.length := (List.getElem?_eq_some_iff.mp hv).1
  have hle : (vs.eraseIdx j).length = vs.length - 1 := List.length_eraseIdx_of_lt hj
  have lv : vs.length = ds.length + 1 := by omega
  have li : ((ds.map Sl.va).insertIdx j (.rs (dnAt y d))).length = ds.length + 1 := by
    rw [List.length_insertIdx_of_le_length (by simp; omega)]; simp
  have stv : ∀ k v, vs[k]? = some v → (L2.start N vs)[k]? = some (some v) := fun k v e => by
    have hk := (List.getElem?_eq_some_iff.mp e).1
    unfold L2.start
    rw [List.getElem?_append_left (by simp; omega), List.getElem?_map, e]
    rfl
  have env_at : ∀ k x, ((ds.map Sl.va).insertIdx j (.rs (dnAt y d)) ++ List.replicate n Sl.fr)[k]? = some x → x = .fr ∨ (k = j ∧ x = .rs (dnAt y d)) ∨ ∃ d', x = .va d' ∧ ∃ v, vs[k]? = some v ∧ Rp p G d' v := by
    intro k x e
    by_cases c : k < ds.length + 1
    · rw [List.getElem?_append_left (by rw [li]; exact c), List.getElem?_insertIdx] at e
      rcases Nat.lt_trichotomy k j with c1 | c1 | c1
      · rw [if_pos c1, List.getElem?_map] at e
        cases q : ds[k]? with
        | none => rw [q] at e; cases e
        | some d' =>
          rw [q] at e
          cases e
          obtain ⟨v, h1, h2⟩ := r.get q
          rw [List.getElem?_eraseIdx, if_pos c1] at h1
          exact .inr (.inr ⟨d', rfl, v, h1, h2⟩)
      · subst c1
        rw [if_neg (Nat.lt_irrefl _), if_pos rfl, if_pos (by simp; omega)] at e
        cases e
        exact .inr (.inl ⟨rfl, rfl⟩)
      · rw [if_neg (by omega), if_neg (by omega), List.getElem?_map] at e
        cases q : ds[k - 1]? with
        | none => rw [q] at e; cases e
        | some d' =>
          rw [q] at e
          cases e
          obtain ⟨v, h1, h2⟩ := r.get q
          rw [List.getElem?_eraseIdx, if_neg (by omega), show k - 1 + 1 = k by omega] at h1
          exact .inr (.inr ⟨d', rfl, v, h1, h2⟩)
    · rw [List.getElem?_append_right (by rw [li]; omega), List.getElem?_replicate] at e
      split at e
      · cases e; exact .inl rfl
      · cases e
  refine ⟨⟨.refl _, sG, s0, fun a o q w => by rw [q] at w; cases w⟩, ?_, fun k d' e => ?_, fun k => if k = j then F else nil, fun k r' e => ?_, fun k l r1 r2 a o n' h1 h2 q => ?_⟩
  · unfold L2.start
    rw [List.length_append, List.length_append, li]
    simp
    omega
  · rcases env_at k _ e with z | ⟨_, z⟩ | ⟨d2, z, v, h1, h2⟩
    · cases z
    · cases z
    · cases z
      exact ⟨v, stv k v h1, h2⟩
  · rcases env_at k _ e with z | ⟨rfl, z⟩ | ⟨d2, z, _⟩
    · cases z
    · cases z
      refine ⟨.ref y, stv k _ hv, ?_⟩
      simp only [if_true]
      exact ⟨⟨rfl, dn_⟩, sF, fr⟩
    · cases z
  · have k1 : k = j := by
      rcases env_at k _ h1 with z | ⟨z, _⟩ | ⟨d2, z, _⟩
      · cases z
      · exact z
      · cases z
    have k2 : l = j := by
      rcases env_at l _ h2 with z | ⟨z, _⟩ | ⟨d2, z, _⟩
      · cases z
      · exact z
      · cases z
    exact absurd (k1.trans k2.symm) n'
variable {P : Program} {w : World} {mg : Str → Option Value} {base : Heap}
theorem def_okM {ea : τ → List D} {f : τ → st → Option (γ × st)} {x qual : Str} {stm : Stmt} {fa : Addr} {fd : FuncData} {N ps : List Str} {k n j : Nat} (F : Fun p.K x qual stm fa fd) (S : FnScope N ps (defScope stm)) (hps : ∀ a, (ea a).length + 1 = ps.length) (hN : N.length = ps.length + n)
    (body : ∀ (cdv : Value) (A : Around) (outer : List Env) (s : Shared) (H : Hp) (E : XK), Room k (A.deeper (PyProof.Rows.envOfC qual (defScope stm) s.heap.objs.size fa cdv)) →
      ∃ t, PSs (cxOf CX0 P w p.K mg base N qual (defScope stm) fa cdv A outer s H E).nox (defBody stm) t ∧ ∀ y a x, Bk p t (((ea a).map Sl.va).insertIdx j (.rs (dnAt y (enc x))) ++ List.replicate n .fr) (f a x) (pM p y γ st)) : FnOk P w p.K mg base CX0 (k + 1) fa fd ps (spM p j ea f) := by
  refine F.ok S (fun vs H Q E h => ?_) fun cdv A outer s H vs Q E hr h => ?_
  · obtain ⟨G, H0, F0, y, a, x, z, hv, r, _⟩ := h
    have hj : j < vs.length := (List.getElem?_eq_some_iff.mp hv).1
    have l1 := r.length
    have l2 : (vs.eraseIdx j).length = vs.length - 1 := List.length_eraseIdx_of_lt hj
    have := hps a
    omega
  · obtain ⟨G, H0, F0, y, a, x, z, hv, r, sG, s0, sF, fr, d, e, q⟩ := h
    obtain ⟨t, h1, h2⟩ := body cdv A outer s H E hr
    exact ⟨t, h1, h2 y a x z e G H0 _ G H (sts_startM sG s0 sF fr hv r d (by rw [hN, ← hps a])) _ q⟩
/-! ### calls -/
theorem Sts.callM {σ : St} {G0 H0 G H : Hp} {i : Nat} {r : D → Rs} [Dl r] {d : D} (S : Sts p G0 H0 env σ G H) (h : env[i]? = some (.rs (r d))) (hd : ∃ c fs, d = .ins c fs) :
    ∃ y F, σ[i]? = some (some (.ref y)) ∧ Dn p G d (.ref y) F ∧ Same F H ∧ Same (minus H F) H ∧ (∀ b o, F b = some o → G b = none ∧ minus H F b = none) ∧
      ∀ d' G' H' F', Gr G G' (minus H F) H' → Same F' H' → (∀ b o, F' b = some o → G' b = none ∧ minus H F b = none) → Dn p G' d' (.ref y) F' → Sts p G0 H0 (env.set i (.rs (r d'))) σ G' H' := by
  obtain ⟨Fs, f⟩ := S.rs
  obtain ⟨v, a1, a2, a3, a4⟩ := f.wh i _ h
  have hD := Dl.of a2
  obtain ⟨c, fs, ed⟩ := hd
  subst ed
  have hD' := hD
  obtain ⟨y, dx, xs, F1, rfl, _⟩ := hD'
  refine ⟨y, Fs i, a1, hD, a3, fun b o q => (minus_some q).2, fun b o q => ⟨(a4 b o q).1, by unfold minus; rw [q]⟩, fun d' G' H' F' g sF' nF' hd' => ?_⟩
  have stay : ∀ b o, H b = some o → Fs i b = none → minus H (Fs i) b = some o := fun b o q z => minus_of z q
  have offH0 : ∀ b o, H0 b = some o → Fs i b = none := fun b o q => by
    cases z : Fs i b with
    | none => rfl
    | some u => rw [(a4 b u z).2] at q; cases q
  have keepH0 : ∀ b o, H0 b = some o → minus H (Fs i) b = some o := fun b o q => stay b o (S.gr.h b o q) (offH0 b o q)
  have keepF : ∀ l r1, i ≠ l → env[l]? = some (.rs r1) → ∀ b o, Fs l b = some o → minus H (Fs i) b = some o := fun l r1 n el b o q => by
    obtain ⟨_, _, _, b3, _⟩ := f.wh l r1 el
    exact stay b o (b3 b o q) (f.ap l i r1 _ b o (Ne.symm n) el h q)
  have freeG : ∀ b o u, minus H (Fs i) b = some o → G b = none → G' b = some u → False := fun b o u q z w => by
    rw [g.n b u w z] at q; cases q
  refine ⟨⟨S.gr.g.trans g.g, g.s, fun b o q => g.h b o (keepH0 b o q), fun b o q w => ?_⟩, by simp [S.len], fun l d2 q => ?_, fun l => if i = l then F' else Fs l, fun l r1 q => ?_, fun l l' r1 r2 b o n q1 q2 q => ?_⟩
  · cases z : H0 b with
    | none => rfl
    | some u =>
      cases y : G b with
      | none => exact (freeG b u o (keepH0 b u z) y q).elim
      | some u2 =>
        have := S.gr.n b u2 y w
        rw [z] at this; cases this
  · rcases set_get q with ⟨_, q, _⟩ | ⟨_, q⟩
    · cases q
    · exact (S.va l d2 q).imp fun v h => ⟨h.1, Rp.mono g.g _ h.2⟩
  · rcases set_get q with ⟨rfl, q, _⟩ | ⟨hj, q⟩
    · cases q
      simp only [if_true]
      refine ⟨.ref y, a1, Dl.back a2 hd', sF', fun b o z => ⟨(nF' b o z).1, ?_⟩⟩
      cases w : H0 b with
      | none => rfl
      | some u =>
        have := (nF' b o z).2
        rw [keepH0 b u w] at this; cases this
    · simp only [if_neg hj]
      obtain ⟨v1, b1, b2, b3, b4⟩ := f.wh l r1 q
      refine ⟨v1, b1, r1.mono g.g b2, fun b o z => g.h b o (keepF l r1 hj q b o z), fun b o z => ⟨?_, (b4 b o z).2⟩⟩
      cases w : G' b with
      | none => rfl
      | some u => exact (freeG b o u (keepF l r1 hj q b o z) (b4 b o z).1 w).elim
  · rcases set_get q1 with ⟨rfl, _, _⟩ | ⟨hj, q1⟩
    · simp only [if_true] at q
      simp only [if_neg n]
      rcases set_get q2 with ⟨z, _, _⟩ | ⟨hk, q2⟩
      · exact absurd z n
      · cases w : Fs l' b with
        | none => rfl
        | some u =>
          have := (nF' b o q).2
          rw [keepF l' r2 hk q2 b u w] at this; cases this
    · simp only [if_neg hj] at q
      rcases set_get q2 with ⟨rfl, _, _⟩ | ⟨hk, q2⟩
      · simp only [if_true]
        cases w : F' b with
        | none => rfl
        | some u =>
          have := (nF' b u w).2
          rw [keepF l r1 hj q1 b o q] at this; cases this
      · simp only [if_neg hk]
        exact f.ap l l' r1 r2 b o n q1 q2 q
/-- arguments, that at place j the thing of slot i itself -/
def EvAM (p : Pm) (ta : TA) (env : List Sl) (i j : Nat) (m : Option (List D)) : Prop :=
  ∀ ds, m = some ds → ∀ G0 H0 σ G H, Sts p G0 H0 env σ G H → ∀ Q : List V → Hp → Prop, (∀ vs v G' H', Gr G G' H H' → σ[i]? = some (some v) → vs[j]? = some v → RpA p G' ds (vs.eraseIdx j) → Q vs H') → ta σ H Q
theorem am_here {i : Nat} {r : Rs} {t : TA} {m : Option (List D)} (hi : env[i]? = some (.rs r)) (h : EvA p t env m) : EvAM p (tCons (tVar i) t) env i 0 m := fun ds e G0 H0 σ G H S Q k => by
  obtain ⟨Fs, f⟩ := S.rs
  obtain ⟨v, a1, _⟩ := f.wh i _ hi
  exact ⟨v, a1, h ds e G0 H0 σ G H S _ fun vs G1 H1 g1 r1 => k (v :: vs) v G1 H1 g1 a1 rfl r1⟩
theorem am_cons {i j : Nat} {ma : Option α} {ms : Option (List D)} {tr : TA} (h : Ev p false ta env ma) (hr : EvAM p tr env i j ms) : EvAM p (tCons ta tr) env i (j + 1) (ma.bind fun x => ms.bind fun ds => some (enc x :: ds)) := fun z e G0 H0 σ G H S Q k => by
  obtain ⟨x, e1, e⟩ := bind_some e
  obtain ⟨ds, e2, e⟩ := bind_some e
  cases e
  refine h x e1 G0 H0 σ G H S _ fun v G1 H1 g1 r1 => hr ds e2 G0 H0 σ G1 H1 (S.step g1) _ fun vs u G2 H2 g2 s2 h2 r2 => ?_
  exact k (v :: vs) u G2 H2 (g1.trans g2) s2 h2 ⟨v, _, rfl, Rp.mono g2.g _ r1, r2⟩
variable {r : D → Rs} [Dl r] {i j : Nat}
theorem ee_call {ea : τ → List D} {f : τ → st → Option (γ × st)} {E : XK} {t : TA} {s : st} {m : Option τ} (h : env[i]? = some (.rs (r (enc s)))) (hs : ∃ c fs, enc s = .ins c fs) (ha : EvAM p t env i j (m.bind fun a => some (ea a))) :
    EvE p (tCall (spM p j ea f) [] E t) env (fun x => env.set i (.rs (r (enc x)))) (m.bind fun a => f a s) := fun z e G0 H0 σ G H S Q k => by
  obtain ⟨a, e1, e⟩ := bind_some e
  refine ha (ea a) (by rw [e1]; rfl) G0 H0 σ G H S _ fun vs v G1 H1 g1 b1 b2 r1 => ?_
  rw [List.append_nil]
  obtain ⟨y, F, c1, c2, c3, c4, c5, back⟩ := (S.step g1).callM h hs
  rw [c1] at b1
  cases b1
  exact ⟨G1, minus H1 F, F, y, a, s, z, b2, r1, g1.s, c4, c3, c5, c2, e, fun v G2 H2 F2 g2 s2 n2 d2 r2 => k v G2 H2 (back _ G2 H2 F2 g2 s2 n2 d2) (g1.g.trans g2.g) r2⟩
theorem dnf_no {G : Hp} {f : Str} : ∀ {fs : List (Str × D)} {xs : List (Str × V)} {F : Hp}, DnF p G fs xs F → fs.lookup f = none → xs.lookup f = none
  | [], _, _, h, _ => by rw [h.1]; rfl
  | (g, d) :: fs, _, _, h, e => by
    obtain ⟨u, us, A, B, rfl, h1, h2, _⟩ := h
    rw [List.lookup_cons] at e ⊢
    cases q : (f == g) with
    | true => rw [q] at e; cases e
    | false => rw [q] at e; exact dnf_no h2 e
theorem ee_meth {ea : τ → List D} {f : τ → st → Option (γ × st)} {S : Addr → Sp → Prop} {mt : Str} {t : TA} {s : st} {c : Nat} {m : Option τ} (h : env[i]? = some (.rs (r (enc s)))) (hs : ∃ fs, enc s = .ins c fs ∧ fs.lookup mt = none) (ha : EvA p t env (m.bind fun a => some (ea a))) (hS : S (p.cl c) (spM p 0 ea f)) :
    EvE p (tMtA mt S (tVar i) t) env (fun x => env.set i (.rs (r (enc x)))) (m.bind fun a => f a s) := fun z e G0 H0 σ G H St Q k => by
  obtain ⟨a, e1, e⟩ := bind_some e
  obtain ⟨fs, es, hl⟩ := hs
  obtain ⟨y0, F0, d1, d2, d3, _⟩ := St.callM h ⟨c, fs, es⟩
  rw [es] at d2
  obtain ⟨y', dx, xs, F1, ey, dF, _, eF⟩ := d2
  cases ey
  have hH : H y0 = some (.ins (p.cl c) dx xs) := d3 _ _ (by rw [eF]; exact upd_same)
  refine ⟨.ref y0, d1, y0, _, dx, xs, _, rfl, hH, dnf_no dF hl, hS, ?_⟩
  refine ha (ea a) (by rw [e1]; rfl) G0 H0 σ G H St _ fun vs G1 H1 g1 r1 => ?_
  obtain ⟨y, F, c1, c2, c3, c4, c5, back⟩ := (St.step g1).callM h ⟨c, fs, es⟩
  rw [d1] at c1
  cases c1
  exact ⟨G1, minus H1 F, F, y0, a, s, z, rfl, r1, g1.s, c4, c3, c5, c2, e, fun v G2 H2 F2 g2 s2 n2 d2 r2 => k v G2 H2 (back _ G2 H2 F2 g2 s2 n2 d2) (g1.g.trans g2.g) r2⟩
end
end PU

set_option Elab.async false
set_option maxRecDepth 100000
set_option linter.all false
/-! PU30: what changes a shelf: specs, calls, statements as the walks are written. -/
namespace PU
open PySem L2
open Enc
instance {α : Type} [Enc α] [Imm α] : Imm (Option α) := ⟨fun x => match x with
  | none => rfl
  | some a => Imm.im a⟩
def thn2 {α st ρ : Type} (m : Option (α × st)) (f : α → st → Option ρ) : Option ρ := m.bind fun z => f z.1 z.2
section
variable {p : Pm} {env env' : List Sl} {te ta tb tk : TE} {t tz u : TS} {tt tu : TT} {α β γ δ ρ st s s' : Type} [Enc α] [Enc β] [Enc γ] [Enc δ] [Enc st] {Po : Post ρ} {i j : Nat} {e1 : st → List Sl}
theorem ee_lt2 {m : Option (Int × st)} {mb : st → Option Int} (ha : EvE p ta env e1 m) (hb : ∀ s, Ev p false tb (e1 s) (mb s)) : EvE p (tOp (rI0 fun i j => .bl (decide (i < j))) ta tb) env e1 (thn2 m fun x s => (mb s).bind fun y => some (decide (x < y), s)) := ee_lt ha hb
theorem te_not2 {m : Option (Bool × st)} (h : EtE p tt env e1 m) : EtE p (tNot tt) env e1 (thn2 m fun b s => some (!b, s)) := te_not h
theorem te_or2 {m : Option (Bool × st)} {m2 : st → Option Bool} (h1 : EtE p tt env e1 m) (h2 : ∀ s, EvT p tu (e1 s) (m2 s)) : EtE p (tOr tt tu) env e1 (thn2 m fun b s => if b = true then some (true, s) else (m2 s).bind fun c => some (c, s)) := te_or h1 h2
theorem k_asgE2 {m : Option (α × st)} {rest : α → st → Option ρ} (h : EvE p te env e1 m) (k : ∀ x s, Bk p tz ((e1 s).set j (.va (enc x))) (rest x s) Po) : Bk p (tSeq (tAsg te (gName j)) tz) env (thn2 m rest) Po := k_asgE h k
theorem k_expE2 {m : Option (α × st)} {rest : α → st → Option ρ} (h : EvE p te env e1 m) (k : ∀ x s, Bk p tz (e1 s) (rest x s) Po) : Bk p (tSeq (tDrop te) tz) env (thn2 m rest) Po := fun q e G0 H0 σ G H S D w => by
  obtain ⟨z, ez, e⟩ := bind_some (show m.bind (fun z => rest z.1 z.2) = some q from e)
  exact h z ez G0 H0 σ G H S _ fun v G1 H1 S1 g1 r1 => k z.1 z.2 q e G0 H0 _ G1 H1 S1 D (Po.mono g1 w)
theorem k_ifE2 [Rto Po] {m : Option (Bool × st)} {ma mb : st → Option ρ} (h : EtE p tt env e1 m) (h1 : ∀ s, Bk p t (e1 s) (ma s) Po) (h2 : ∀ s, Bk p tz (e1 s) (mb s) Po) :
    Bk p (tSeq (tIfS tt t tNext) tz) env (thn2 m fun b s => if b = true then ma s else mb s) Po := k_ifE h h1 h2
theorem k_ifEG2 {β : Type} {R : Post β} {envN : s → List Sl} [Rto R] {m : Option (Bool × st)} {ma : st → Option β} {mb : st → Option (Rr s β)} (h : EtE p tt env e1 m) (h1 : ∀ x, Bk p t (e1 x) (ma x) R) (h2 : ∀ x, Bk p tz (e1 x) (mb x) (pBG p R envN)) :
    Bk p (tSeq (tIfS tt t tNext) tz) env (thn2 m fun b x => if b = true then (ma x).bind (fun y => some (Rr.rt y)) else mb x) (pBG p R envN) := fun r e G0 H0 σ G H S D q => by
  obtain ⟨z, ez, e⟩ := bind_some (show m.bind (fun z => if z.1 = true then (ma z.2).bind (fun y => some (Rr.rt y)) else mb z.2) = some r from e)
  refine h z ez G0 H0 σ G H S _ fun G1 H1 S1 g1 => ?_
  show if z.1 = true then _ else _
  split at e
  · rename_i c
    rw [if_pos c]
    obtain ⟨y, e2, e⟩ := bind_some e
    cases e
    exact h1 z.2 y e2 G0 H0 σ G1 H1 S1 _ (Rto.rt (by rfl) (R.mono g1 q))
  · rename_i c
    rw [if_neg c]
    exact h2 z.2 r e G0 H0 σ G1 H1 S1 D ((pBG p R envN).mono g1 q)
theorem bk_B {nw : Bool} {envN : s → List Sl} {m : Option (Rr s β)} (h : Bk p t env m (pBG p (pR p nw β) envN)) : Bk p t env m (pB p nw envN) := fun r e G0 H0 σ G H S D q => h r e G0 H0 σ G H S D (by cases r <;> exact q)
theorem bk_G {nw : Bool} {envN : s → List Sl} {m : Option (Rr s β)} (h : Bk p t env m (pB p nw envN)) : Bk p t env m (pBG p (pR p nw β) envN) := fun r e G0 H0 σ G H S D q => h r e G0 H0 σ G H S D (by cases r <;> exact q)
theorem k_ifEB {nw : Bool} {envN : s → List Sl} {m : Option (Bool × st)} {ma : st → Option β} {mb : st → Option (Rr s β)} (h : EtE p tt env e1 m) (h1 : ∀ x, Bk p t (e1 x) (ma x) (pR p nw β)) (h2 : ∀ x, Bk p tz (e1 x) (mb x) (pB p nw envN)) :
    Bk p (tSeq (tIfS tt t tNext) tz) env (thn2 m fun b x => if b = true then (ma x).bind (fun y => some (Rr.rt y)) else mb x) (pB p nw envN) := bk_B (k_ifEG2 (R := pR p nw β) h h1 fun x => bk_G (h2 x))
/-! ### specs and calls -/
def spM0 (p : Pm) (f : st → Option (γ × st)) : Sp := spM p 0 (fun _ : Unit => []) fun _ x => f x
def spM1 (p : Pm) (j : Nat) (f : α → st → Option (γ × st)) : Sp := spM p j (fun x : α => [enc x]) f
def spM2 (p : Pm) (j : Nat) (f : α → β → st → Option (γ × st)) : Sp := spM p j (fun x : α × β => [enc x.1, enc x.2]) fun x y => f x.1 x.2 y
def spM3 (p : Pm) (j : Nat) (f : α → β → δ → st → Option (γ × st)) : Sp := spM p j (fun x : α × β × δ => [enc x.1, enc x.2.1, enc x.2.2]) fun x y => f x.1 x.2.1 x.2.2 y
theorem am_cons2 {ds : List D} {ma : Option α} {x : α} {tr : TA} (h : Ev p false ta env ma) (e : ma = some x) (hr : EvAM p tr env i j (some ds)) : EvAM p (tCons ta tr) env i (j + 1) (some (enc x :: ds)) := by
  have := am_cons h hr
  rw [e] at this
  exact this
theorem ea_cons2 {ds : List D} {ma : Option α} {x : α} {tr : TA} (h : Ev p false ta env ma) (e : ma = some x) (hr : EvA p tr env (some ds)) : EvA p (tCons ta tr) env (some (enc x :: ds)) := by
  have := ea_cons h hr
  rw [e] at this
  exact this
variable {r : D → Rs} [Dl r] {tc : TE} {ta' : TA} {x : st} {ma : Option α} {mb : Option β} {mc : Option δ} {E : XK}
theorem ee_call0 {f : st → Option (γ × st)} (h : env[i]? = some (.rs (r (enc x)))) (hs : ∃ c fs, enc x = .ins c fs) (ha : EvAM p ta' env i 0 (some [])) :
    EvE p (tCall (spM0 p f) [] E ta') env (fun x => env.set i (.rs (r (enc x)))) (f x) := fun z e => ee_call (m := some ()) (f := fun (_ : Unit) x => f x) h hs ha z e
theorem ee_call3 {f : α → β → δ → st → Option (γ × st)} (h : env[i]? = some (.rs (r (enc x)))) (hs : ∃ c fs, enc x = .ins c fs) (ha : ∀ a b c, ma = some a → mb = some b → mc = some c → EvAM p ta' env i j (some [enc a, enc b, enc c])) :
    EvE p (tCall (spM3 p j f) [] E ta') env (fun x => env.set i (.rs (r (enc x)))) (ma.bind fun a => mb.bind fun b => mc.bind fun c => f a b c x) := fun z e => by
  obtain ⟨a, e1, e⟩ := bind_some e
  obtain ⟨b, e2, e⟩ := bind_some e
  obtain ⟨c, e3, e⟩ := bind_some e
  exact ee_call (m := some (a, b, c)) (f := fun (y : α × β × δ) x => f y.1 y.2.1 y.2.2 x) h hs (ha a b c e1 e2 e3) z e
/-- a method of one class, its object lent -/
def mSM2 (p : Pm) (c : Nat) (f : st → α → β → Option (γ × st)) : Addr → Sp → Prop := fun C sp => C = p.cl c ∧ sp = spM2 p 0 (fun a b x => f x a b)
theorem ee_meth2 {f : st → α → β → Option (γ × st)} {mt : Str} {c : Nat} (h : env[i]? = some (.rs (r (enc x)))) (hs : ∃ fs, enc x = .ins c fs ∧ fs.lookup mt = none) (ha : Ev p false ta env ma) (hb : Ev p false tb env mb) :
    EvE p (tMtA mt (mSM2 p c f) (tVar i) (tCons ta (tCons tb tNil))) env (fun x => env.set i (.rs (r (enc x)))) (ma.bind fun a => mb.bind fun b => f x a b) := fun z e => by
  obtain ⟨a, e1, e⟩ := bind_some e
  obtain ⟨b, e2, e⟩ := bind_some e
  exact ee_meth (m := some (a, b)) (ea := fun y : α × β => [enc y.1, enc y.2]) (f := fun (y : α × β) x => f x y.1 y.2) (S := mSM2 p c f) h hs (ea_cons2 ha e1 (ea_cons2 hb e2 ea_nil)) ⟨rfl, rfl⟩ z e
/-! ### the fields of a shelf -/
variable {g : Option Shf} {put : Shf → Option st}
def Shf.setBooks (x : Shf) (l : List Int) : Shf := { x with books := l }
def Shf.setDone (x : Shf) (l : List (Int × Int)) : Shf := { x with done := l }
def Shf.setPaid (x : Shf) (n : Int) : Shf := { x with paid := n }
theorem putG0 {f : Str} {v u : D} {rs : List (Str × D)} : putG f v ((f, u) :: rs) = (f, v) :: rs := if_pos rfl
theorem putG1 {f g : Str} {v u : D} {rs : List (Str × D)} (h : (g == f) = false) : putG f v ((g, u) :: rs) = (g, u) :: putG f v rs := if_neg fun c => by rw [c] at h; simp at h
theorem lens_books {x : st} (L : Lens p env te i x g put) (hc : Cls p.K (p.cl 6)) (hn : NoAttr p.K (p.cl 6) "books") : Lens p env (tFld p.K te "books") i x (g.bind fun b => some b.books) (fun c => g.bind fun b => (some (b.setBooks c)).bind put) :=
  lens_fd (get := fun b => some b.books) (rep := fun b c => some (b.setBooks c)) L fun b c e => by
    cases e
    exact ⟨6, _, rfl, lk0, hc, hn, fun c' b' e' => by cases e'; exact congrArg (D.ins 6) putG0.symm⟩
theorem lens_done {x : st} (L : Lens p env te i x g put) (hc : Cls p.K (p.cl 6)) (hn : NoAttr p.K (p.cl 6) "done") : Lens p env (tFld p.K te "done") i x (g.bind fun b => some b.done) (fun c => g.bind fun b => (some (b.setDone c)).bind put) :=
  lens_fd (get := fun b => some b.done) (rep := fun b c => some (b.setDone c)) L fun b c e => by
    cases e
    refine ⟨6, _, rfl, (lk1 (by decide +kernel)).trans ((lk1 (by decide +kernel)).trans ((lk1 (by decide +kernel)).trans ((lk1 (by decide +kernel)).trans lk0))), hc, hn, fun c' b' e' => ?_⟩
    cases e'
    refine congrArg (D.ins 6) ?_
    rw [putG1 (by decide +kernel), putG1 (by decide +kernel), putG1 (by decide +kernel), putG1 (by decide +kernel), putG0]
    rfl
variable {y : Shf}
theorem k_books {me : Option (List Int)} {rest : Shf → Option ρ} (h : env[i]? = some (.rs (r (enc y)))) (hc : Cls p.K (p.cl 6)) (hn : NoAttr p.K (p.cl 6) "books") (he : EvN p te env me)
    (k : ∀ y', Bk p tz (env.set i (.rs (r (enc y')))) (rest y') Po) : Bk p (tSeq (sFld p.K (tVar i) te "books") tz) env (me.bind fun l => (some (y.setBooks l)).bind rest) Po :=
  k_fldP (rep := fun (x : Shf) l => some (x.setBooks l)) h (fun l x' e => by
    cases e
    exact ⟨6, _, _, rfl, lk0, hc, hn, by show 5 < 1000; decide, congrArg (D.ins 6) putG0.symm⟩) he k
theorem k_paid {me : Option Int} {rest : Shf → Option ρ} (h : env[i]? = some (.rs (r (enc y)))) (hc : Cls p.K (p.cl 6)) (hn : NoAttr p.K (p.cl 6) "paid") (he : Ev p false te env me)
    (k : ∀ y', Bk p tz (env.set i (.rs (r (enc y')))) (rest y') Po) : Bk p (tSeq (sFldAug p.K (tVar i) te rAdd "paid") tz) env ((some y.paid).bind fun n => me.bind fun m => (some (y.setPaid (n + m))).bind rest) Po :=
  k_fldAug (get := fun x : Shf => some x.paid) (rep := fun (x : Shf) n => some (x.setPaid n)) h (fun n e => by
    cases e
    refine ⟨6, _, rfl, (lk1 (by decide +kernel)).trans ((lk1 (by decide +kernel)).trans ((lk1 (by decide +kernel)).trans lk0)), hc, hn, by show 5 < 1000; decide, fun m x' e' => ?_⟩
    cases e'
    refine congrArg (D.ins 6) ?_
    rw [putG1 (by decide +kernel), putG1 (by decide +kernel), putG1 (by decide +kernel), putG0]
    rfl) he k
end
end PU

set_option Elab.async false
set_option maxRecDepth 100000
set_option linter.all false
/-! PU31: lists written out with calls that change; a call to which a place is lent. -/
namespace PU
open PySem L2
open Enc
section
variable {p : Pm} {env : List Sl} {te ta tb tk : TE} {tr : TA} {α β γ δ ρ st : Type} [Enc α] [Enc β] [Enc γ] [Enc δ] {e1 : st → List Sl} {s : st}
/-- items, some of which change the slots; at most n -/
def EvLE (p : Pm) (n : Nat) (ta : TA) (env : List Sl) {α st : Type} [Enc α] (e1 : st → List Sl) (m : Option (List α × st)) : Prop :=
  ∀ z, m = some z → z.1.length ≤ n ∧ ∀ G0 H0 σ G H, Sts p G0 H0 env σ G H → ∀ Q : List V → Hp → Prop, (∀ vs G' H', Sts p G0 H0 (e1 z.2) σ G' H' → Same G G' → RpA p G' (z.1.map enc) vs → Q vs H') → ta σ H Q
theorem le_nil0 (h : e1 s = env) : EvLE p 0 tNil env e1 (some (([] : List α), s)) := fun z e => by
  cases e
  exact ⟨Nat.le_refl _, fun G0 H0 σ G H S Q k => k [] G H (by rw [h]; exact S) (.refl _) rfl⟩
theorem le_pure {n : Nat} {ma : Option α} {ms : Option (List α × st)} (h : Ev p false ta env ma) (hr : EvLE p n tr env e1 ms) : EvLE p (n + 1) (tCons ta tr) env e1 (ma.bind fun x => ms.bind fun z => some (x :: z.1, z.2)) := fun z e => by
  obtain ⟨x, ex, e⟩ := bind_some e
  obtain ⟨y, ey, e⟩ := bind_some e
  cases e
  obtain ⟨hl, hr⟩ := hr y ey
  refine ⟨by simp; exact hl, fun G0 H0 σ G H S Q k => h x ex G0 H0 σ G H S _ fun v G1 H1 g1 r1 => hr G0 H0 σ G1 H1 (S.step g1) _ fun vs G2 H2 S2 g2 r2 => ?_⟩
  exact k (v :: vs) G2 H2 S2 (g1.g.trans g2) ⟨v, vs, rfl, Rp.mono g2 _ r1, r2⟩
theorem le_eff {n : Nat} {m : Option (α × st)} {ms : st → Option (List α × st)} (h : EvE p ta env e1 m) (hr : ∀ s, EvLE p n tr (e1 s) e1 (ms s)) : EvLE p (n + 1) (tCons ta tr) env e1 (thn2 m fun x s => (ms s).bind fun z => some (x :: z.1, z.2)) := fun z e => by
  obtain ⟨x, ex, e⟩ := bind_some (show m.bind (fun q => (ms q.2).bind fun z => some (q.1 :: z.1, z.2)) = some z from e)
  obtain ⟨y, ey, e⟩ := bind_some e
  cases e
  obtain ⟨hl, hr⟩ := hr x.2 y ey
  refine ⟨by simp; exact hl, fun G0 H0 σ G H S Q k => h x ex G0 H0 σ G H S _ fun v G1 H1 S1 g1 r1 => hr G0 H0 σ G1 H1 S1 _ fun vs G2 H2 S2 g2 r2 => ?_⟩
  exact k (v :: vs) G2 H2 S2 (g1.trans g2) ⟨v, vs, rfl, Rp.mono g2 _ r1, r2⟩
theorem ee_lst {n : Nat} {m : Option (List α × st)} (h : EvLE p n tr env e1 m) (hn : n ≤ 100000 := by decide) : EvE p (tLst tr) env e1 m := fun z e G0 H0 σ G H S Q k => by
  obtain ⟨hl, h⟩ := h z e
  refine h G0 H0 σ G H S _ fun vs G1 H1 S1 g1 r1 => ⟨?_, fun l hf => ?_⟩
  · rw [← r1.length, List.length_map]
    exact sz_of (Nat.le_trans hl hn)
  · have gn := Gr.new (o := .lst vs) S1.gr.s hf
    exact k (.ref l) _ _ (S1.step gn) (g1.trans gn.g) ⟨l, vs, rfl, upd_same, RpA.mono gn.g _ r1⟩
/-- an item that is coerced to None or a thing -/
theorem ee_some {m : Option (α × st)} (h : EvE p te env e1 m) : EvE p te env e1 (thn2 m fun x s => some (some x, s)) := fun z e G0 H0 σ G H S Q k => by
  obtain ⟨x, ex, e⟩ := bind_some (show m.bind (fun q => some (some q.1, q.2)) = some z from e)
  cases e
  exact h x ex G0 H0 σ G H S Q k
end
section
variable {p : Pm} {env : List Sl} {te tb tc : TE} {α β γ δ τ ρ σt : Type} [Enc α] [Enc β] [Enc γ] [Enc δ] [Enc σt] {r : D → Rs} [Dl r] {i : Nat} {x : α} {g : Option σt} {put : σt → Option α}
/-- a call, a place within what is one's own lent as the first argument -/
theorem ee_callP {ea : τ → List D} {f : τ → σt → Option (γ × σt)} {E : XK} {t : TA} {m : Option τ} (h : env[i]? = some (.rs (r (enc x)))) (L : Lens p env te i x g put) (hs : ∀ b : σt, ∀ {G : Hp} {v : V} {F : Hp}, Dn p G (enc b) v F → ∃ y, v = .ref y) (ha : EvA p t env (m.bind fun a => some (ea a))) :
    EvE p (tCall (spM p 0 ea f) [] E (tCons te t)) env (fun x' : α => env.set i (.rs (r (enc x')))) (m.bind fun a => g.bind fun b => thn2 (f a b) fun z b' => (put b').bind fun x' => some (z, x')) := fun w e G0 H0 σ G H S Q k => by
  obtain ⟨a, e1, e⟩ := bind_some e
  obtain ⟨b, e2, e⟩ := bind_some e
  obtain ⟨z, e3, e⟩ := bind_some (show (f a b).bind (fun q => (put q.2).bind fun x' => some (q.1, x')) = some w from e)
  obtain ⟨x', e4, e⟩ := bind_some e
  cases e
  obtain ⟨Fs, fz⟩ := S.rs
  obtain ⟨v, a1, a2, a3, a4⟩ := fz.wh i _ h
  obtain ⟨u, Fe, Fr, q1, q2, q3, eF, q4⟩ := L.run S.ints a1 (Dl.of a2) a3 e2
  obtain ⟨y, rfl⟩ := hs b q2
  refine q1 _ ?_
  refine ha (ea a) (by rw [e1]; rfl) G0 H0 σ G H S _ fun vs G1 H1 g1 r1 => ?_
  show spM p 0 ea f ((V.ref y :: vs) ++ []) H1 Q E
  rw [List.append_nil]
  have S1 := S.step g1
  have sE : Same Fe (Fs i) := by rw [eF]; exact same_un1
  have sR : Same Fr (Fs i) := by rw [eF]; exact same_un2 q3
  have hH : Same (Fs i) H1 := a3.trans g1.h
  have f1 := fz.step g1
  obtain ⟨v', b1, b2, b3, b4⟩ := f1.wh i _ h
  rw [a1] at b1
  cases b1
  refine ⟨G1, minus H1 Fe, Fe, y, a, b, z, rfl, r1, g1.s, fun c o q => (minus_some q).2, sE.trans hH, fun c o q => ⟨(b4 c o (sE c o q)).1, by unfold minus; rw [q]⟩, Dn.mono g1.g _ q2, e3, fun v2 G2 H2 F2 g2 s2 n2 d2 r2 => ?_⟩
  have keepFr : ∀ c o, Fr c = some o → minus H1 Fe c = some o := fun c o q => minus_of (by
    cases w : Fe c with
    | none => rfl
    | some u => rw [q3 c u w] at q; cases q) (hH c o (sR c o q))
  have djF : Dj F2 Fr := fun c o q => by
    cases w : Fr c with
    | none => rfl
    | some u =>
      have := (n2 c o q).2
      rw [keepFr c u w] at this; cases this
  have stay : ∀ c o, H1 c = some o → Fs i c = none → minus H1 Fe c = some o := fun c o q z => minus_of (by
    cases w : Fe c with
    | none => rfl
    | some u => rw [sE c u w] at z; cases z) q
  have offH0 : ∀ c o, H0 c = some o → Fs i c = none := fun c o q => by
    cases z : Fs i c with
    | none => rfl
    | some u => rw [(b4 c u z).2] at q; cases q
  have keepH0 : ∀ c o, H0 c = some o → minus H1 Fe c = some o := fun c o q => stay c o (S1.gr.h c o q) (offH0 c o q)
  have keepF : ∀ l r1, i ≠ l → env[l]? = some (.rs r1) → ∀ c o, Fs l c = some o → minus H1 Fe c = some o := fun l r1 n el c o q => by
    obtain ⟨_, _, _, c3, _⟩ := f1.wh l r1 el
    exact stay c o (c3 c o q) (f1.ap l i r1 _ c o (Ne.symm n) el h q)
  have freeG : ∀ c o u, minus H1 Fe c = some o → G1 c = none → G2 c = some u → False := fun c o u q z w => by
    rw [g2.n c u w z] at q; cases q
  have dn2 := q4 G2 z.2 x' F2 (g1.g.trans g2.g) e4 d2 djF
  refine k v2 G2 H2 ⟨⟨S1.gr.g.trans g2.g, g2.s, fun c o q => g2.h c o (keepH0 c o q), fun c o q w => ?_⟩, by simp [S.len], fun l d q => ?_, fun l => if i = l then un F2 Fr else Fs l, fun l r1 q => ?_, fun l l' r1 r2 c o n q1 q2 q => ?_⟩ (g1.g.trans g2.g) r2
  · cases z : H0 c with
    | none => rfl
    | some u =>
      cases y : G1 c with
      | none => exact (freeG c u o (keepH0 c u z) y q).elim
      | some u2 =>
        have := S1.gr.n c u2 y w
        rw [z] at this; cases this
  · rcases set_get q with ⟨_, q, _⟩ | ⟨_, q⟩
    · cases q
    · exact (S1.va l d q).imp fun v h => ⟨h.1, Rp.mono g2.g _ h.2⟩
  · rcases set_get q with ⟨rfl, q, _⟩ | ⟨hj, q⟩
    · cases q
      simp only [if_true]
      refine ⟨v, a1, Dl.back b2 dn2, un_same s2 (fun c o z => g2.h c o (keepFr c o z)), fun c o z => ?_⟩
      rcases un_some z with z | z
      · refine ⟨(n2 c o z).1, ?_⟩
        cases w : H0 c with
        | none => rfl
        | some u =>
          have := (n2 c o z).2
          rw [keepH0 c u w] at this; cases this
      · refine ⟨?_, (b4 c o (sR c o z)).2⟩
        cases w : G2 c with
        | none => rfl
        | some u => exact (freeG c o u (keepFr c o z) (b4 c o (sR c o z)).1 w).elim
    · simp only [if_neg hj]
      obtain ⟨v1, c1, c2, c3, c4⟩ := f1.wh l r1 q
      refine ⟨v1, c1, r1.mono g2.g c2, fun c o z => g2.h c o (keepF l r1 hj q c o z), fun c o z => ⟨?_, (c4 c o z).2⟩⟩
      cases w : G2 c with
      | none => rfl
      | some u => exact (freeG c o u (keepF l r1 hj q c o z) (c4 c o z).1 w).elim
  · have dF : ∀ l r1, i ≠ l → env[l]? = some (.rs r1) → ∀ c o, Fs l c = some o → un F2 Fr c = none := fun l r1 n el c o q => by
      refine un_none.mpr ⟨?_, ?_⟩
      · cases w : F2 c with
        | none => rfl
        | some u =>
          have := (n2 c u w).2
          rw [keepF l r1 n el c o q] at this; cases this
      · cases w : Fr c with
        | none => rfl
        | some u =>
          have := f1.ap l i r1 _ c o (Ne.symm n) el h q
          rw [sR c u w] at this; cases this
    rcases set_get q1 with ⟨rfl, _, _⟩ | ⟨hj, q1⟩
    · simp only [if_true] at q
      simp only [if_neg n]
      rcases set_get q2 with ⟨z, _, _⟩ | ⟨hk, q2⟩
      · exact absurd z n
      · cases w : Fs l' c with
        | none => rfl
        | some u => rw [dF l' r2 hk q2 c u w] at q; cases q
    · simp only [if_neg hj] at q
      rcases set_get q2 with ⟨rfl, _, _⟩ | ⟨hk, q2⟩
      · simp only [if_true]
        exact dF l r1 hj q1 c o q
      · simp only [if_neg hk]
        exact f1.ap l l' r1 r2 c o n q1 q2 q
theorem ee_callP2 {mb : Option β} {mc : Option δ} {f : β → δ → σt → Option (γ × σt)} {E : XK} (h : env[i]? = some (.rs (r (enc x)))) (L : Lens p env te i x g put) (hs : ∀ b : σt, ∀ {G : Hp} {v : V} {F : Hp}, Dn p G (enc b) v F → ∃ y, v = .ref y) (hb : Ev p false tb env mb) (hc : Ev p false tc env mc) :
    EvE p (tCall (spM2 p 0 f) [] E (tCons te (tCons tb (tCons tc tNil)))) env (fun x' : α => env.set i (.rs (r (enc x')))) (mb.bind fun b => mc.bind fun c => g.bind fun y => thn2 (f b c y) fun z y' => (put y').bind fun x' => some (z, x')) := fun z e => by
  obtain ⟨b, e1, e⟩ := bind_some e
  obtain ⟨c, e2, e⟩ := bind_some e
  exact ee_callP (m := some (b, c)) (ea := fun y : β × δ => [enc y.1, enc y.2]) (f := fun (y : β × δ) x => f y.1 y.2 x) h L hs (ea_cons2 hb e1 (ea_cons2 hc e2 ea_nil)) z e
theorem dn_lst_ref {l : List γ} {G : Hp} {v : V} {F : Hp} (h : Dn p G (enc l) v F) : ∃ y, v = .ref y := by
  obtain ⟨a, _, _, rfl, _⟩ := h
  exact ⟨a, rfl⟩
end
end PU

set_option Elab.async false
set_option maxRecDepth 100000
set_option linter.all false
/-! PU32: walks over the items of a place within what is one's own, that may return. -/
namespace PU
open PySem L2
open Enc
def mapR {γ δ ρ : Type} (h : γ → δ) : Rr γ ρ → Rr δ ρ
  | .nx y => .nx (h y)
  | .rt z => .rt z
def pre {γ ρ : Type} (ys : List γ) : Rr (List γ) ρ → Rr (List γ) ρ
  | .nx zs => .nx (ys ++ zs)
  | .rt z => .rt z
theorem pre_nil {γ ρ : Type} (r : Rr (List γ) ρ) : pre [] r = r := by cases r <;> rfl
theorem pre_pre {γ ρ : Type} (a b : List γ) (r : Rr (List γ) ρ) : pre a (pre b r) = pre (a ++ b) r := by
  cases r
  · simp [pre]
  · rfl
def mapB {γ ρ : Type} (f : γ → Option (Rr γ ρ)) : List γ → Option (Rr (List γ) ρ)
  | [] => some (.nx [])
  | c :: cs => (f c).bind fun r => match r with
    | .nx y => (mapB f cs).bind fun r2 => some (pre [y] r2)
    | .rt z => some (.rt z)
def endB {γ α ρ : Type} (put : γ → Option α) : Rr γ ρ → Option (Rr α ρ)
  | .nx l => (put l).bind fun x => some (.nx x)
  | .rt z => some (.rt z)
/-- posts that a part more laid aside doesn't harm -/
class Rsb {ρ : Type} (R : Post ρ) : Prop where
  sub : ∀ {y : ρ} {G0 H0 G B : Hp} {D : Ends}, R.P y G0 H0 G D → R.P y G0 (un H0 B) G D
theorem Gr.unl {G G' H0 B H' : Hp} (g : Gr G G' (un H0 B) H') : Gr G G' H0 H' := ⟨g.g, g.s, fun a o h => g.h a o (same_un1 a o h), fun a o h k => (un_none.mp (g.n a o h k)).1⟩
instance {p : Pm} {β : Type} [Enc β] {nw : Bool} : Rsb (pR p nw β) := ⟨fun {y G0 H0 G B D} h v G' H' g r => h v G' H' g.unl (by
  cases nw with
  | false => exact r
  | true =>
    obtain ⟨l, vs, ds, q1, q2, q3, q4⟩ := r
    exact ⟨l, vs, ds, q1, q2, (un_none.mp q3).1, q4⟩)⟩
instance {p : Pm} {y : Addr} {γ st : Type} [Enc γ] [Enc st] : Rsb (pM p y γ st) := ⟨fun {z G0 H0 G B D} h v G' H' F' g a b c d => h v G' H' F' g.unl a (fun k o q => ⟨(b k o q).1, (un_none.mp (b k o q).2).1⟩) c d⟩
section
variable {p : Pm} {env : List Sl} {te : TE} {t : TS} {w : D → Rs} [Dl w] {α β γ ρ : Type} [Enc α] [Enc β] [Enc γ] {i j : Nat} {x : α} {R : Post ρ}
/-- for y in (the place): y is changed -/
theorem k_forIB [Rsb R] [Rto R] {g : Option (List γ)} {put : List γ → Option α} {f : γ → Option (Rr γ ρ)} (h : env[i]? = some (.rs (w (enc x)))) (L : Lens p env te i x g put) (hij : i ≠ j) (hj4 : j < env.length) (hl : ∀ c : γ, ∃ ds, enc c = .lst ds)
    (hb : ∀ v b c, Bk p t ((env.set i (.rs (rv v))).set j (.rs (dnAt b (enc c)))) (f c) (pBG p R fun c' => (env.set i (.rs (rv v))).set j (.rs (dnAt b (enc c'))))) :
    Bk p (tFor (iList p.K te) (gName j) t) env (g.bind fun l => (mapB f l).bind (endB put)) (pBG p R fun x' => (env.set i (.rs (w (enc x')))).set j .fr) := fun x' e G0 H0 σ G H st D q => by
  obtain ⟨l, e1, e⟩ := bind_some e
  obtain ⟨l', e2, e3⟩ := bind_some e
  have hi : i < env.length := (List.getElem?_eq_some_iff.mp h).1
  obtain ⟨v, F, a1, a2, a3, a4, mk⟩ := st.lend h
  obtain ⟨u, Fe, Fr, q1, ⟨a, xs, F', rfl, d1, d2, rfl⟩, q3, eF, q4⟩ := L.run st.ints a1 (Dl.of a2) a3 e1
  have sFr : Same Fr F := by rw [eF]; exact same_un2 q3
  have hH : H a = some (.lst xs) := a3 _ _ (by rw [eF]; exact same_un1 _ _ upd_same)
  have st0 := mk _ Fr (hold v (.ref a) (dn (enc l))) eF q3 ⟨rfl, a, xs, F', rfl, d1, d2, rfl⟩
  have bG : ∀ b o, Fr b = some o → G0 b = none := fun b o z => st.gr.g.free (a4 b o (sFr b o z)).1
  have bH : Dj Fr H0 := fun b o z => (a4 b o (sFr b o z)).2
  refine q1 _ ⟨a, rfl, ⟨xs, .of hH⟩, fun i' m σ' H' => m = l.length - i' ∧ i' ≤ l.length ∧ ∃ done rest' G', done.length = i' ∧ mapB f (l.drop i') = some rest' ∧ endB put (pre done rest') = some x' ∧ Sts p G0 (un H0 Fr) ((env.set i (.rs (hold v (.ref a) (dn (.lst ((done ++ l.drop i').map enc)))))).set j .fr) σ' G' H' ∧ Same G G',
    ⟨_, rfl, Nat.zero_le _, [], l', G, rfl, e2, by rw [pre_nil]; exact e3, st0.le (leE_fr _ j), .refl _⟩, ?_⟩
  rintro i' m σ' H' ⟨rfl, hle, done, rest', G', dl, hf, hdone, s', sg⟩
  have ei : ((env.set i (.rs (hold v (.ref a) (dn (.lst ((done ++ l.drop i').map enc)))))).set j .fr)[i]? = some (.rs (hold v (.ref a) (dn (.lst ((done ++ l.drop i').map enc))))) := by
    rw [List.getElem?_set_ne (Ne.symm hij), List.getElem?_set_self hi]
  obtain ⟨v', F2, b1, ⟨hv, a', xs2, F3, ea, c1, c2, rfl⟩, b3, b4, mk2⟩ := s'.lend ei
  cases ea
  subst hv
  have hH2 : H' a = some (.lst xs2) := b3 _ _ upd_same
  have hs : SqL p.K H' a xs2 := .of hH2
  have ll := c1.length
  rw [List.length_map, List.length_append, List.length_drop, dl] at ll
  by_cases hlt : i' < l.length
  · have ed : ((done ++ l.drop i').map enc)[i']? = some (enc l[i']) := by
      rw [List.getElem?_map, List.getElem?_append_right (by omega), dl, Nat.sub_self, List.getElem?_drop, Nat.add_zero, List.getElem?_eq_getElem hlt]; rfl
    obtain ⟨u, Fj, Fo, z1, z2, z3, rfl, z4⟩ := DnA.split c1 ed
    obtain ⟨dc, hdc⟩ := hl l[i']
    have z2' := z2
    rw [hdc] at z2'
    obtain ⟨b, ys, Fb, rfl, y1, y2, y3⟩ := z2'
    have na := un_none.mp c2
    rw [List.drop_eq_getElem_cons hlt] at hf
    obtain ⟨yr, hy, hf⟩ := bind_some hf
    have eFB : upd (un Fj Fo) a (.lst xs2) = un Fj (upd Fo a (.lst xs2)) := un_upd na.1
    have djB : Dj Fj (upd Fo a (.lst xs2)) := fun k o z => by
      by_cases ck : k = a
      · subst ck; rw [na.1] at z; cases z
      · rw [upd_ne ck]; exact z3 k o z
    have st2 := mk2 Fj (upd Fo a (.lst xs2)) (hold v' (.ref b) (dnAt b (enc l[i']))) eFB djB ⟨rfl, rfl, z2⟩
    have bG2 : ∀ k o, upd Fo a (.lst xs2) k = some o → G0 k = none := fun k o z => s'.gr.g.free (b4 k o (by rw [eFB]; exact same_un2 djB k o z)).1
    have bH2 : Dj (upd Fo a (.lst xs2)) (un H0 Fr) := fun k o z => (b4 k o (by rw [eFB]; exact same_un2 djB k o z)).2
    refine .inr ⟨⟨xs2, .ref b, hs, z1⟩, fun σ2 H2 => ∃ done rest' G', done.length = i' + 1 ∧ mapB f (l.drop (i' + 1)) = some rest' ∧ endB put (pre done rest') = some x' ∧ Sts p G0 (un H0 Fr) ((env.set i (.rs (hold v' (.ref a) (dn (.lst ((done ++ l.drop (i' + 1)).map enc)))))).set j .fr) σ2 G' H2 ∧ Same G G',
      fun σ2 H2 z => ⟨l.length - (i' + 1), by omega, rfl, hlt, z⟩, fun x0 H2 yv => ?_⟩
    obtain ⟨rfl, yv⟩ := yv
    have yv := yv xs2 hs
    rw [z1] at yv; cases yv
    have hi2 : i < ((env.set i (.rs (hold v' (.ref a) (dn (.lst ((done ++ l.drop i').map enc)))))).set j .fr).length := by simpa using hi
    have st3 := st2.move (by rw [List.getElem?_set_self hi2]) hij
    rw [List.set_set, set3 hij, List.set_set] at st3
    refine hb v' b l[i'] yr hy G0 _ _ G' H2 st3 _ ?_
    cases yr with
    | rt z =>
      have ez : rest' = .rt z := (Option.some.inj hf).symm
      subst ez
      have ex : Rr.rt z = x' := Option.some.inj hdone
      subst ex
      exact Rto.rt (Po := R) (by rfl) (Rsb.sub (Rsb.sub (R.mono sg q)))
    | nx y =>
    obtain ⟨rest2, hr, hf⟩ := bind_some (show (mapB f (l.drop (i' + 1))).bind (fun r2 => some (pre [y] r2)) = some rest' from hf)
    cases hf
    show ∀ σ4 G4 H4, Sts p G0 _ _ σ4 G4 H4 → Same G' G4 → _
    intro σ4 G4 H4 s4 sg4
    have hi4 : i < env.length := hi
    have e4i : ((env.set i (.rs (rv v'))).set j (.rs (dnAt b (enc y))))[i]? = some (.rs (rv v')) := by rw [List.getElem?_set_ne (Ne.symm hij), List.getElem?_set_self hi]
    have s5 := s4.unmove (q := dnAt b (enc y)) (w := .ref b) e4i (by rw [List.getElem?_set_self (by simpa using hj4)]) (fun z => z.1) hij
    rw [List.set_set] at s5
    have e5 : (((env.set i (.rs (rv v'))).set j .fr).set i (.rs (hold v' (.ref b) (dnAt b (enc y)))))[i]? = some (.rs (hold v' (.ref b) (dnAt b (enc y)))) := by rw [List.getElem?_set_self (by simpa using hi)]
    have s6 := s5.back (r := hold v' (.ref a) (dn (.lst (((done ++ [y]) ++ l.drop (i' + 1)).map enc)))) e5 bG2 bH2 fun v0 A k1 k2 k3 k4 => by
      obtain ⟨rfl, _, k2⟩ := k2
      have Aa : A a = none := by
        cases zz : A a with
        | none => rfl
        | some o => have := k3 a o zz; rw [upd_same] at this; cases this
      have AFo : Dj A Fo := fun k o zz => by
        by_cases ck : k = a
        · subst ck; rw [Aa] at zz; cases zz
        · have := k3 k o zz; rw [upd_ne ck] at this; exact this
      have n1 := z4 G4 (enc y) A sg4 k2 AFo
      have es : ((done ++ l.drop i').map enc).set i' (enc y) = ((done ++ [y]) ++ l.drop (i' + 1)).map enc := by
        rw [List.drop_eq_getElem_cons hlt, List.map_append, List.set_append_right _ _ (by rw [List.length_map]; omega), List.length_map, dl, Nat.sub_self, List.map_cons, List.set_cons_zero, List.append_assoc, List.map_append]
        rfl
      rw [es] at n1
      exact ⟨rfl, a, xs2, un A Fo, rfl, n1, un_none.mpr ⟨Aa, na.2⟩, (un_upd Aa).symm⟩
    rw [List.set_set, set3 hij] at s6
    exact ⟨done ++ [y], rest2, G4, by simp [dl], hr, by rw [← pre_pre]; exact hdone, s6, sg.trans sg4⟩
  · have ei' : i' = l.length := by omega
    subst ei'
    rw [List.drop_length] at hf
    cases hf
    have hdone : (put (done ++ [])).bind (fun x => some (Rr.nx x)) = some x' := hdone
    rw [List.append_nil] at hdone
    obtain ⟨x9, e9, hdone⟩ := bind_some hdone
    cases hdone
    refine .inl ⟨⟨xs2, hs, by omega⟩, ?_⟩
    have s6 := s'.back (r := w (enc x9)) ei bG bH fun v0 A k1 k2 k3 k4 => by
      obtain ⟨rfl, k2⟩ := k2
      rw [List.drop_length, List.append_nil] at k2
      exact Dl.back a2 (q4 G' done x9 A sg e9 k2 k3)
    rw [set3 hij] at s6
    exact q σ' G' H' s6 sg
/-- for y, k in (the place): y is changed -/
theorem k_forTB [Rsb R] [Rto R] {j2 : Nat} [Scal β] {g : Option (List (γ × β))} {put : List (γ × β) → Option α} {f : γ → β → Option (Rr γ ρ)} (h : env[i]? = some (.rs (w (enc x)))) (L : Lens p env te i x g put) (hij : i ≠ j) (hj4 : j < env.length) (hij2 : i ≠ j2) (hjj2 : j ≠ j2) (hl : ∀ c : γ, ∃ ds, enc c = .lst ds)
    (hb : ∀ v b c (m : β), Bk p t (((env.set i (.rs (rv v))).set j (.rs (dnAt b (enc c)))).set j2 (.va (enc m))) (f c m) (pBG p R fun c' => ((env.set i (.rs (rv v))).set j (.rs (dnAt b (enc c')))).set j2 .fr)) :
    Bk p (tFor (iList p.K te) (gTup p.K 2 (gCons (gName j) (gCons (gName j2) gNil))) t) env (g.bind fun l => (mapB (fun q : γ × β => (f q.1 q.2).bind fun r => some (mapR (fun c => (c, q.2)) r)) l).bind (endB put)) (pBG p R fun x' => ((env.set i (.rs (w (enc x')))).set j .fr).set j2 .fr) := fun x' e G0 H0 σ G H st D q => by
  obtain ⟨l, e1, e⟩ := bind_some e
  obtain ⟨l', e2, e3⟩ := bind_some e
  have hi : i < env.length := (List.getElem?_eq_some_iff.mp h).1
  obtain ⟨v, F, a1, a2, a3, a4, mk⟩ := st.lend h
  obtain ⟨u, Fe, Fr, q1, ⟨a, xs, F', rfl, d1, d2, rfl⟩, q3, eF, q4⟩ := L.run st.ints a1 (Dl.of a2) a3 e1
  have sFr : Same Fr F := by rw [eF]; exact same_un2 q3
  have hH : H a = some (.lst xs) := a3 _ _ (by rw [eF]; exact same_un1 _ _ upd_same)
  have st0 := mk _ Fr (hold v (.ref a) (dn (enc l))) eF q3 ⟨rfl, a, xs, F', rfl, d1, d2, rfl⟩
  have bG : ∀ b o, Fr b = some o → G0 b = none := fun b o z => st.gr.g.free (a4 b o (sFr b o z)).1
  have bH : Dj Fr H0 := fun b o z => (a4 b o (sFr b o z)).2
  refine q1 _ ⟨a, rfl, ⟨xs, .of hH⟩, fun i' m σ' H' => m = l.length - i' ∧ i' ≤ l.length ∧ ∃ done rest' G', done.length = i' ∧ mapB (fun q : γ × β => (f q.1 q.2).bind fun r => some (mapR (fun c => (c, q.2)) r)) (l.drop i') = some rest' ∧ endB put (pre done rest') = some x' ∧ Sts p G0 (un H0 Fr) (((env.set i (.rs (hold v (.ref a) (dn (.lst ((done ++ l.drop i').map enc)))))).set j .fr).set j2 .fr) σ' G' H' ∧ Same G G',
    ⟨_, rfl, Nat.zero_le _, [], l', G, rfl, e2, by rw [pre_nil]; exact e3, (st0.le (leE_fr _ j)).le (leE_fr _ j2), .refl _⟩, ?_⟩
  rintro i' m σ' H' ⟨rfl, hle, done, rest', G', dl, hf, hdone, s', sg⟩
  have ei : (((env.set i (.rs (hold v (.ref a) (dn (.lst ((done ++ l.drop i').map enc)))))).set j .fr).set j2 .fr)[i]? = some (.rs (hold v (.ref a) (dn (.lst ((done ++ l.drop i').map enc))))) := by
    rw [List.getElem?_set_ne (Ne.symm hij2), List.getElem?_set_ne (Ne.symm hij), List.getElem?_set_self hi]
  obtain ⟨v', F2, b1, ⟨hv, a', xs2, F3, ea, c1, c2, rfl⟩, b3, b4, mk2⟩ := s'.lend ei
  cases ea
  subst hv
  have hH2 : H' a = some (.lst xs2) := b3 _ _ upd_same
  have hs : SqL p.K H' a xs2 := .of hH2
  have ll := c1.length
  rw [List.length_map, List.length_append, List.length_drop, dl] at ll
  by_cases hlt : i' < l.length
  · have ed : ((done ++ l.drop i').map enc)[i']? = some (enc l[i']) := by
      rw [List.getElem?_map, List.getElem?_append_right (by omega), dl, Nat.sub_self, List.getElem?_drop, Nat.add_zero, List.getElem?_eq_getElem hlt]; rfl
    obtain ⟨u, Fj, Fo, z1, z2, z3, rfl, z4⟩ := DnA.split c1 ed
    have ni : ∀ c : γ, immA [enc c, enc l[i'].2] = false := fun c => by
      obtain ⟨dc, hdc⟩ := hl c
      show (imm (enc c) && _) = false
      rw [hdc]; rfl
    rcases z2 with ⟨h0, _⟩ | ⟨_, tt, ys, Fc, rfl, dA, tn, rfl⟩
    · rw [ni l[i'].1] at h0; cases h0
    obtain ⟨v1, vs1, Fb, F5, rfl, y1, ⟨v2, vs2, Fm, F6, rfl, y2, ⟨rfl, rfl⟩, _, rfl⟩, _, rfl⟩ := dA
    obtain ⟨y2r, rfl⟩ := Dn.imm_rp _ (Scal.im l[i'].2) y2
    rw [un_nil, un_nil] at *
    obtain ⟨dc, hdc⟩ := hl l[i'].1
    have y1' := y1
    rw [hdc] at y1'
    obtain ⟨b, ys, Fb', rfl, _⟩ := y1'
    have na := un_none.mp c2
    rw [List.drop_eq_getElem_cons hlt] at hf
    obtain ⟨yy, hy, hf⟩ := bind_some hf
    obtain ⟨yr, hy2, hyy⟩ := bind_some hy
    cases hyy
    have nt := z3 tt _ upd_same
    have ta : tt ≠ a := fun c => by rw [c] at na; rw [upd_same] at na; cases na.1
    have Fba : Fb a = none := by have := na.1; rw [upd_ne (Ne.symm ta)] at this; exact this
    have nFo : upd Fo tt (.tup [.ref b, v2]) a = none := by rw [upd_ne (Ne.symm ta)]; exact na.2
    have eFB : upd (un (upd Fb tt (.tup [.ref b, v2])) Fo) a (.lst xs2) = un Fb (upd (upd Fo tt (.tup [.ref b, v2])) a (.lst xs2)) := by
      rw [upd_un, un_upd tn, un_upd Fba]
    have djB : Dj Fb (upd (upd Fo tt (.tup [.ref b, v2])) a (.lst xs2)) := fun k o z => by
      by_cases ck : k = a
      · subst ck; rw [Fba] at z; cases z
      · rw [upd_ne ck]
        by_cases ct : k = tt
        · subst ct; rw [tn] at z; cases z
        · rw [upd_ne ct]
          exact z3 k o (by rw [upd_ne ct]; exact z)
    have st2 := mk2 Fb (upd (upd Fo tt (.tup [.ref b, v2])) a (.lst xs2)) (hold v' (.ref b) (dnAt b (enc l[i'].1))) eFB djB ⟨rfl, rfl, y1⟩
    have bG2 : ∀ k o, upd (upd Fo tt (.tup [.ref b, v2])) a (.lst xs2) k = some o → G0 k = none := fun k o z => s'.gr.g.free (b4 k o (by rw [eFB]; exact same_un2 djB k o z)).1
    have bH2 : Dj (upd (upd Fo tt (.tup [.ref b, v2])) a (.lst xs2)) (un H0 Fr) := fun k o z => (b4 k o (by rw [eFB]; exact same_un2 djB k o z)).2
    refine .inr ⟨⟨xs2, .ref tt, hs, z1⟩, fun σ2 H2 => ∃ done rest' G', done.length = i' + 1 ∧ mapB (fun q : γ × β => (f q.1 q.2).bind fun r => some (mapR (fun c => (c, q.2)) r)) (l.drop (i' + 1)) = some rest' ∧ endB put (pre done rest') = some x' ∧ Sts p G0 (un H0 Fr) (((env.set i (.rs (hold v' (.ref a) (dn (.lst ((done ++ l.drop (i' + 1)).map enc)))))).set j .fr).set j2 .fr) σ2 G' H2 ∧ Same G G',
      fun σ2 H2 z => ⟨l.length - (i' + 1), by omega, rfl, hlt, z⟩, fun x0 H2 yv => ?_⟩
    obtain ⟨rfl, yv⟩ := yv
    have yv := yv xs2 hs
    rw [z1] at yv; cases yv
    have hi2 : i < (((env.set i (.rs (hold v' (.ref a) (dn (.lst ((done ++ l.drop i').map enc)))))).set j .fr).set j2 .fr).length := by simpa using hi
    have hT : H2 tt = some (.tup [.ref b, v2]) := b3 _ _ (by rw [upd_ne ta, upd_un]; exact upd_same)
    refine ⟨tt, _, rfl, .of hT, rfl, .ref b, _, rfl, v2, _, rfl, rfl, ?_⟩
    have st3 := st2.move (by rw [List.getElem?_set_self hi2]) hij
    have st3 := st3.set_va (i := j2) (d := enc l[i'].2) (v := v2) y2r
    rw [List.set_set, set4 hij hij2 hjj2] at st3
    refine hb v' b l[i'].1 l[i'].2 yr hy2 G0 _ _ G' H2 st3 _ ?_
    cases yr with
    | rt z =>
      have ez : rest' = .rt z := (Option.some.inj hf).symm
      subst ez
      have ex : Rr.rt z = x' := Option.some.inj hdone
      subst ex
      exact Rto.rt (Po := R) (by rfl) (Rsb.sub (Rsb.sub (R.mono sg q)))
    | nx y =>
    obtain ⟨rest2, hr, hf⟩ := bind_some (show (mapB (fun q : γ × β => (f q.1 q.2).bind fun r => some (mapR (fun c => (c, q.2)) r)) (l.drop (i' + 1))).bind (fun r2 => some (pre [(y, l[i'].2)] r2)) = some rest' from hf)
    cases hf
    show ∀ σ4 G4 H4, Sts p G0 _ _ σ4 G4 H4 → Same G' G4 → _
    intro σ4 G4 H4 s4 sg4
    have hi4 : i < env.length := hi
    have e4i : (((env.set i (.rs (rv v'))).set j (.rs (dnAt b (enc y)))).set j2 .fr)[i]? = some (.rs (rv v')) := by rw [List.getElem?_set_ne (Ne.symm hij2), List.getElem?_set_ne (Ne.symm hij), List.getElem?_set_self hi]
    have s5 := s4.unmove (q := dnAt b (enc y)) (w := .ref b) e4i (by rw [List.getElem?_set_ne (Ne.symm hjj2), List.getElem?_set_self (by simpa using hj4)]) (fun z => z.1) hij
    rw [set5 hij hij2 hjj2] at s5
    have e5 : (((env.set i (.rs (hold v' (.ref b) (dnAt b (enc y))))).set j .fr).set j2 .fr)[i]? = some (.rs (hold v' (.ref b) (dnAt b (enc y)))) := by rw [List.getElem?_set_ne (Ne.symm hij2), List.getElem?_set_ne (Ne.symm hij), List.getElem?_set_self hi]
    have s6 := s5.back (r := hold v' (.ref a) (dn (.lst (((done ++ [(y, l[i'].2)]) ++ l.drop (i' + 1)).map enc)))) e5 bG2 bH2 fun v0 A k1 k2 k3 k4 => by
      obtain ⟨rfl, _, k2⟩ := k2
      have Aa : A a = none := by
        cases zz : A a with
        | none => rfl
        | some o => have := k3 a o zz; rw [upd_same] at this; cases this
      have At : A tt = none := by
        cases zz : A tt with
        | none => rfl
        | some o => have := k3 tt o zz; rw [upd_ne ta, upd_same] at this; cases this
      have AFo : Dj A Fo := fun k o zz => by
        by_cases ck : k = a
        · subst ck; rw [Aa] at zz; cases zz
        · by_cases ct : k = tt
          · subst ct; rw [At] at zz; cases zz
          · have := k3 k o zz; rw [upd_ne ck, upd_ne ct] at this; exact this
      have nT : Dn p G4 (enc (y, l[i'].2)) (.ref tt) (upd A tt (.tup [.ref b, v2])) := .inr ⟨ni y, tt, _, A, rfl, ⟨.ref b, [v2], A, nil, rfl, k2, ⟨v2, [], nil, nil, rfl, Dn.of_imm _ (Scal.im _) (Rp.mono sg4 _ y2r), ⟨rfl, rfl⟩, dj_nil, (nil_un nil).symm⟩, dj_nil', (un_nil A).symm⟩, At, rfl⟩
      have ATo : Dj (upd A tt (.tup [.ref b, v2])) Fo := fun k o zz => by
        by_cases ct : k = tt
        · subst ct; exact nt
        · rw [upd_ne ct] at zz; exact AFo k o zz
      have n1 := z4 G4 (enc (y, l[i'].2)) _ sg4 nT ATo
      have es : ((done ++ l.drop i').map enc).set i' (enc (y, l[i'].2)) = ((done ++ [(y, l[i'].2)]) ++ l.drop (i' + 1)).map enc := by
        rw [List.drop_eq_getElem_cons hlt, List.map_append, List.set_append_right _ _ (by rw [List.length_map]; omega), List.length_map, dl, Nat.sub_self, List.map_cons, List.set_cons_zero, List.append_assoc, List.map_append]
        rfl
      rw [es] at n1
      refine ⟨rfl, a, xs2, un (upd A tt (.tup [.ref b, v2])) Fo, rfl, n1, un_none.mpr ⟨by rw [upd_ne (Ne.symm ta)]; exact Aa, na.2⟩, ?_⟩
      rw [upd_un, un_upd At, un_upd Aa]
    rw [set6 hij hij2] at s6
    exact ⟨done ++ [(y, l[i'].2)], rest2, G4, by simp [dl], hr, by rw [← pre_pre]; exact hdone, s6, sg.trans sg4⟩
  · have ei' : i' = l.length := by omega
    subst ei'
    rw [List.drop_length] at hf
    cases hf
    have hdone : (put (done ++ [])).bind (fun x => some (Rr.nx x)) = some x' := hdone
    rw [List.append_nil] at hdone
    obtain ⟨x9, e9, hdone⟩ := bind_some hdone
    cases hdone
    refine .inl ⟨⟨xs2, hs, by omega⟩, ?_⟩
    have s6 := s'.back (r := w (enc x9)) ei bG bH fun v0 A k1 k2 k3 k4 => by
      obtain ⟨rfl, k2⟩ := k2
      rw [List.drop_length, List.append_nil] at k2
      exact Dl.back a2 (q4 G' done x9 A sg e9 k2 k3)
    rw [set6 hij hij2] at s6
    exact q σ' G' H' s6 sg
end
end PU

set_option Elab.async false
set_option maxRecDepth 100000
set_option linter.all false
/-! PU33: what is popped off a place and kept, and put back. -/
namespace PU
open PySem L2
open Enc
section
variable {p : Pm} {env : List Sl} {te : TE} {α st : Type} [Enc α] {e1 : st → List Sl}
theorem ee_un {m : Option (Option α × st)} (h : EvE p te env e1 m) : EvE p te env e1 (thn2 m fun x s => x.bind fun w => some (w, s)) := fun z e G0 H0 σ G H S Q k => by
  obtain ⟨x, ex, e⟩ := bind_some (show m.bind (fun q => q.1.bind fun w => some (w, q.2)) = some z from e)
  obtain ⟨w, ew, e⟩ := bind_some e
  cases e
  refine h x ex G0 H0 σ G H S Q fun v G1 H1 S1 g1 r1 => k v G1 H1 S1 g1 ?_
  rw [ew] at r1
  exact r1
end
/-- two things, the one in its slot, the other u -/
def hold2 (q1 : Rs) (u : V) (q2 : Rs) : Rs := ⟨fun p G v F => ∃ A B, F = un A B ∧ Dj A B ∧ q1.R p G v A ∧ q2.R p G u B, fun e h => by
  obtain ⟨A, B, h1, h2, h3, h4⟩ := h
  exact ⟨A, B, h1, h2, q1.mono e h3, q2.mono e h4⟩⟩
section
variable {p : Pm} {env : List Sl} {σ : St} {G0 H0 G H : Hp}
theorem Sts.split2 {i j : Nat} {q1 q2 : Rs} {u : V} (s : Sts p G0 H0 env σ G H) (e : env[i]? = some (.rs (hold2 q1 u q2))) (hij : i ≠ j) : Sts p G0 H0 ((env.set i (.rs q1)).set j (.rs q2)) (σ.set j (some u)) G H := by
  obtain ⟨Fs, f⟩ := s.rs
  obtain ⟨v, a1, ⟨A, B, eF, dj, h1, h2⟩, a3, a4⟩ := f.wh i _ e
  have sA : Same A (Fs i) := by rw [eF]; exact same_un1
  have sB : Same B (Fs i) := by rw [eF]; exact same_un2 dj
  have old : ∀ {l : Nat} {r1 : Rs}, ((env.set i (.rs q1)).set j (.rs q2))[l]? = some (.rs r1) → (l = j ∧ r1 = q2 ∧ j < env.length) ∨ (l ≠ j ∧ l = i ∧ r1 = q1) ∨ (l ≠ j ∧ l ≠ i ∧ env[l]? = some (.rs r1)) := fun {l r1} z => by
    rcases set_get z with ⟨h1, z, h2⟩ | ⟨h1, z⟩
    · cases z; exact .inl ⟨h1.symm, rfl, by simpa using h2⟩
    · rcases set_get z with ⟨h2, z, _⟩ | ⟨h2, z⟩
      · cases z; exact .inr (.inl ⟨Ne.symm h1, h2.symm, rfl⟩)
      · exact .inr (.inr ⟨Ne.symm h1, Ne.symm h2, z⟩)
  refine ⟨s.gr, by simp [s.len], fun l d z => ?_, fun l => if l = j then B else if l = i then A else Fs l, fun l r1 z => ?_, fun l l' r1 r2 a o n z1 z2 z => ?_⟩
  · rcases set_get z with ⟨_, z, _⟩ | ⟨h1, z⟩
    · cases z
    · rcases set_get z with ⟨_, z, _⟩ | ⟨h2, z⟩
      · cases z
      · rw [List.getElem?_set_ne h1]
        exact s.va l d z
  · rcases old z with ⟨rfl, rfl, hl⟩ | ⟨k1, rfl, rfl⟩ | ⟨k1, k2, z⟩
    · simp only [if_true]
      exact ⟨u, by rw [List.getElem?_set_self (by rw [s.len]; exact hl)], h2, sB.trans a3, fun a o q => a4 a o (sB a o q)⟩
    · simp only [if_neg k1, if_true]
      exact ⟨v, by rw [List.getElem?_set_ne (Ne.symm k1)]; exact a1, h1, sA.trans a3, fun a o q => a4 a o (sA a o q)⟩
    · simp only [if_neg k1, if_neg k2]
      rw [List.getElem?_set_ne (Ne.symm k1)]
      exact f.wh l r1 z
  · have sub : ∀ l a o, (if l = j then B else if l = i then A else Fs l) a = some o → (l = j ∧ B a = some o) ∨ (l ≠ j ∧ l = i ∧ A a = some o) ∨ (l ≠ j ∧ l ≠ i ∧ Fs l a = some o) := fun l a o q => by
      by_cases c1 : l = j
      · rw [if_pos c1] at q; exact .inl ⟨c1, q⟩
      · rw [if_neg c1] at q
        by_cases c2 : l = i
        · rw [if_pos c2] at q; exact .inr (.inl ⟨c1, c2, q⟩)
        · rw [if_neg c2] at q; exact .inr (.inr ⟨c1, c2, q⟩)
    cases w : (if l' = j then B else if l' = i then A else Fs l') a with
    | none => rfl
    | some o' =>
      exfalso
      rcases sub l a o z with ⟨rfl, x1⟩ | ⟨k1, rfl, x1⟩ | ⟨k1, k2, x1⟩ <;> rcases sub l' a o' w with ⟨rfl, y1⟩ | ⟨m1, rfl, y1⟩ | ⟨m1, m2, y1⟩
      · exact n rfl
      · rw [dj a o' y1] at x1; cases x1
      · rcases old z2 with ⟨h, _⟩ | ⟨_, h, _⟩ | ⟨_, _, h⟩
        · exact m1 h
        · exact m2 h
        · have := f.ap i l' _ _ a o (Ne.symm m2) e h (sB a o x1)
          rw [y1] at this; cases this
      · rw [dj a o x1] at y1; cases y1
      · exact n rfl
      · rcases old z2 with ⟨h, _⟩ | ⟨_, h, _⟩ | ⟨_, _, h⟩
        · exact m1 h
        · exact m2 h
        · have := f.ap l l' _ _ a o (Ne.symm m2) e h (sA a o x1)
          rw [y1] at this; cases this
      · rcases old z1 with ⟨h, _⟩ | ⟨_, h, _⟩ | ⟨_, _, h⟩
        · exact k1 h
        · exact k2 h
        · have := f.ap l i _ _ a o k2 h e x1
          rw [sB a o' y1] at this; cases this
      · rcases old z1 with ⟨h, _⟩ | ⟨_, h, _⟩ | ⟨_, _, h⟩
        · exact k1 h
        · exact k2 h
        · have := f.ap l l' _ _ a o k2 h e x1
          rw [sA a o' y1] at this; cases this
      · rcases old z1 with ⟨h, _⟩ | ⟨_, h, _⟩ | ⟨_, _, h⟩
        · exact k1 h
        · exact k2 h
        · rcases old z2 with ⟨h', _⟩ | ⟨_, h', _⟩ | ⟨_, _, h'⟩
          · exact m1 h'
          · exact m2 h'
          · have := f.ap l l' _ _ a o n h h' x1
            rw [y1] at this; cases this
theorem Sts.merge2 {i j : Nat} {q1 q2 : Rs} (s : Sts p G0 H0 env σ G H) (e : env[i]? = some (.rs q1)) (e2 : env[j]? = some (.rs q2)) (hij : i ≠ j) : ∃ u, σ[j]? = some (some u) ∧ Sts p G0 H0 ((env.set i (.rs (hold2 q1 u q2))).set j .fr) σ G H := by
  obtain ⟨Fs, f⟩ := s.rs
  obtain ⟨v, a1, a2, a3, a4⟩ := f.wh i _ e
  obtain ⟨u, b1, b2, b3, b4⟩ := f.wh j _ e2
  have dj : Dj (Fs i) (Fs j) := fun a o q => f.ap i j _ _ a o hij e e2 q
  refine ⟨u, b1, s.gr, by simp [s.len], fun l d z => ?_, fun l => if l = i then un (Fs i) (Fs j) else Fs l, fun l r1 z => ?_, fun l l' r1 r2 a o n z1 z2 z => ?_⟩
  · rcases set_get z with ⟨_, z, _⟩ | ⟨h1, z⟩
    · cases z
    · rcases set_get z with ⟨_, z, _⟩ | ⟨h2, z⟩
      · cases z
      · exact s.va l d z
  · rcases set_get z with ⟨_, z, _⟩ | ⟨h1, z⟩
    · cases z
    · rcases set_get z with ⟨rfl, z, _⟩ | ⟨h2, z⟩
      · cases z
        simp only [if_true]
        refine ⟨v, a1, ⟨Fs i, Fs j, rfl, dj, a2, b2⟩, un_same a3 b3, fun a o q => ?_⟩
        rcases un_some q with q | q
        · exact a4 a o q
        · exact b4 a o q
      · simp only [if_neg (Ne.symm h2)]
        exact f.wh l r1 z
  · have cl : ∀ {l : Nat} {r1 : Rs}, ((env.set i (.rs (hold2 q1 u q2))).set j .fr)[l]? = some (.rs r1) → l ≠ j ∧ (l = i ∨ (l ≠ i ∧ env[l]? = some (.rs r1))) := fun {l r1} z => by
      rcases set_get z with ⟨_, z, _⟩ | ⟨h1, z⟩
      · cases z
      · rcases set_get z with ⟨h2, z, _⟩ | ⟨h2, z⟩
        · exact ⟨Ne.symm h1, .inl h2.symm⟩
        · exact ⟨Ne.symm h1, .inr ⟨Ne.symm h2, z⟩⟩
    obtain ⟨c1, c2⟩ := cl z1
    obtain ⟨d1, d2⟩ := cl z2
    rcases c2 with rfl | ⟨c2, c3⟩
    · rcases d2 with rfl | ⟨d2, d3⟩
      · exact absurd rfl n
      · simp only [if_true] at z
        simp only [if_neg d2]
        rcases un_some z with z | z
        · exact f.ap l l' _ _ a o n e d3 z
        · exact f.ap j l' _ _ a o (Ne.symm d1) e2 d3 z
    · simp only [if_neg c2] at z
      rcases d2 with rfl | ⟨d2, d3⟩
      · simp only [if_true]
        exact un_none.mpr ⟨f.ap l l' _ _ a o n c3 e z, f.ap l j _ _ a o c1 c3 e2 z⟩
      · simp only [if_neg d2]
        exact f.ap l l' _ _ a o n c3 d3 z
theorem DnA.snoc {d : D} : ∀ {ds : List D} {xs : List V} {F : Hp}, DnA p G (ds ++ [d]) xs F → ∃ ys v A B, xs = ys ++ [v] ∧ DnA p G ds ys A ∧ Dn p G d v B ∧ Dj A B ∧ F = un A B
  | [], _, _, h => by
    obtain ⟨v, vs, A, B, rfl, h1, h2, _, rfl⟩ := h
    obtain ⟨rfl, rfl⟩ := (h2 : vs = [] ∧ B = nil)
    exact ⟨[], v, nil, A, rfl, ⟨rfl, rfl⟩, h1, dj_nil, by rw [nil_un, un_nil]⟩
  | e :: ds, _, _, h => by
    obtain ⟨v, vs, A, B, rfl, h1, h2, h3, rfl⟩ := h
    obtain ⟨ys, u, A2, B2, rfl, k1, k2, k3, rfl⟩ := DnA.snoc (ds := ds) h2
    obtain ⟨j1, j2⟩ := dj_un h3
    exact ⟨v :: ys, u, un A A2, B2, rfl, ⟨v, ys, A, A2, rfl, h1, k1, j1, rfl⟩, k2, fun a o q => by
      rcases un_some q with q | q
      · exact j2 a o q
      · exact k3 a o q, by rw [un_assoc]⟩
end
section
variable {p : Pm} {env : List Sl} {te ta : TE} {tz : TS} {w : D → Rs} [Dl w] {α β γ ρ : Type} [Enc α] [Enc β] [Enc γ] {Po : Post ρ} {i j : Nat} {x : α}
/-- y = (the place).pop() -/
theorem k_popMv {g : Option (List γ)} {put : List γ → Option α} {rest : γ → α → Option ρ} (h : env[i]? = some (.rs (w (enc x)))) (L : Lens p env te i x g put) (hij : i ≠ j) (k : ∀ y x', Bk p tz ((env.set i (.rs (w (enc x')))).set j (.rs (dn (enc y)))) (rest y x') Po) :
    Bk p (tSeq (tAsg (tBM0 p.K "list" rPop te) (gName j)) tz) env (g.bind fun l => l.getLast?.bind fun y => (put l.dropLast).bind fun x' => rest y x') Po := fun r e G0 H0 σ G H st D q => by
  obtain ⟨l, e1, e⟩ := bind_some e
  obtain ⟨y, e2, e⟩ := bind_some e
  obtain ⟨x', e4, e⟩ := bind_some e
  have hi : i < env.length := (List.getElem?_eq_some_iff.mp h).1
  obtain ⟨v, F, a1, a2, a3, wr⟩ := st.writeL h
  obtain ⟨u, Fe, Fr, q1, ⟨a, xs, F', rfl, d1, d2, rfl⟩, q3, rfl, q4⟩ := L.run st.ints a1 (Dl.of a2) a3 e1
  have el : l = l.dropLast ++ [y] := by
    obtain ⟨ys, hl⟩ := List.getLast?_eq_some_iff.mp e2
    rw [hl, List.dropLast_concat]
  rw [el, List.map_append] at d1
  obtain ⟨ys, z, A, B, rfl, k1, k2, k3, rfl⟩ := DnA.snoc (d := enc y) d1
  have na := un_none.mp d2
  have hFa : un (upd (un A B) a (.lst (ys ++ [z]))) Fr a = some (.lst (ys ++ [z])) := same_un1 _ _ upd_same
  have hH := a3 _ _ hFa
  obtain ⟨w1, w2, w3⟩ := wr G H (.refl st.gr.s)
  have Fra : Fr a = none := q3 a _ upd_same
  have sA : ∀ b o, A b = some o → un (upd (un A B) a (.lst (ys ++ [z]))) Fr b = some o := fun b o h => same_un1 _ _ (by
    have cb : b ≠ a := fun c => by rw [c, na.1] at h; cases h
    rw [upd_ne cb]; exact same_un1 _ _ h)
  have sB : ∀ b o, B b = some o → un (upd (un A B) a (.lst (ys ++ [z]))) Fr b = some o := fun b o h => same_un1 _ _ (by
    have cb : b ≠ a := fun c => by rw [c, na.2] at h; cases h
    rw [upd_ne cb]; exact same_un2 k3 _ _ h)
  have dAr : Dj A Fr := fun b o h => q3 b o (by
    have cb : b ≠ a := fun c => by rw [c, na.1] at h; cases h
    rw [upd_ne cb]; exact same_un1 _ _ h)
  have dBr : Dj B Fr := fun b o h => q3 b o (by
    have cb : b ≠ a := fun c => by rw [c, na.2] at h; cases h
    rw [upd_ne cb]; exact same_un2 k3 _ _ h)
  have djn : Dj (upd A a (.lst ys)) Fr := fun b o h => by
    by_cases c : b = a
    · subst c; exact Fra
    · rw [upd_ne c] at h; exact dAr b o h
  have nd := q4 G l.dropLast x' (upd A a (.lst ys)) (.refl _) e4 ⟨a, ys, A, rfl, k1, na.1, rfl⟩ djn
  have dAB : Dj (un (upd A a (.lst ys)) Fr) B := fun b o h => by
    rcases un_some h with h | h
    · by_cases c : b = a
      · subst c; exact na.2
      · rw [upd_ne c] at h; exact k3 b o h
    · cases y : B b with
      | none => rfl
      | some o2 => rw [dBr b o2 y] at h; cases h
  have es : σ = σ.set i (some v) := by
    obtain ⟨hi, he⟩ := List.getElem?_eq_some_iff.mp a1
    rw [← he, List.set_getElem_self]
  have st2 := w3 (hold2 (w (enc x')) z (dn (enc y))) v (un (un (upd A a (.lst ys)) Fr) B) (upd H a (.lst ys)) ⟨fun b o h => ?_, fun b z1 z2 => ?_, fun b o z1 z2 => ?_⟩ ⟨_, _, rfl, dAB, Dl.back a2 nd, k2⟩
  · rw [← es] at st2
    have st3 := st2.split2 (by rw [List.getElem?_set_self hi]) hij
    rw [List.set_set] at st3
    refine q1 _ ⟨.inl ⟨rfl, _, .of hH⟩, a, ys ++ [z], z, rfl, rfl, hH, by simp, ?_⟩
    rw [List.dropLast_concat]
    exact k y x' r e G0 H0 _ G _ st3 D (Po.mono (.refl _) q)
  · rcases un_some h with h | h
    · rcases un_some h with h | h
      · by_cases c : b = a
        · subst c; rw [upd_same] at h ⊢; exact h
        · rw [upd_ne c] at h ⊢; exact a3 _ _ (sA b o h)
      · have c : b ≠ a := fun c => by rw [c, Fra] at h; cases h
        rw [upd_ne c]
        refine a3 b o (same_un2 q3 _ _ h)
    · have c : b ≠ a := fun c => by rw [c, na.2] at h; cases h
      rw [upd_ne c]; exact a3 _ _ (sB b o h)
  · have c : b ≠ a := fun c => by subst c; rw [hFa] at z1; cases z1
    rw [upd_ne c]
  · exfalso
    rcases un_some z1 with h | h
    · rcases un_some h with h | h
      · by_cases c : b = a
        · subst c; rw [hFa] at z2; cases z2
        · rw [upd_ne c] at h; rw [sA b o h] at z2; cases z2
      · rw [same_un2 q3 _ _ h] at z2; cases z2
    · rw [sB b o h] at z2; cases z2
/-- (the place).append(y), y one's own, given away -/
theorem k_appMv {g : Option (List γ)} {put : List γ → Option α} {y : γ} {rest : α → Option ρ} (h : env[i]? = some (.rs (w (enc x)))) (h2 : env[j]? = some (.rs (dn (enc y)))) (L : Lens p env te i x g put) (hij : i ≠ j) (k : ∀ x', Bk p tz ((env.set i (.rs (w (enc x')))).set j .fr) (rest x') Po) :
    Bk p (tSeq (tDrop (tBM p.K "list" rAppend te (tCons (tVar j) tNil))) tz) env (g.bind fun l => (app? l y).bind fun l' => (put l').bind rest) Po := fun r e G0 H0 σ G H st D q => by
  obtain ⟨l, e1, e⟩ := bind_some e
  obtain ⟨l', e3, e⟩ := bind_some e
  obtain ⟨x', e4, e5⟩ := bind_some e
  have hi : i < env.length := (List.getElem?_eq_some_iff.mp h).1
  obtain ⟨u, hu, st2⟩ := st.merge2 h h2 hij
  have ei : ((env.set i (.rs (hold2 (w (enc x)) u (dn (enc y))))).set j .fr)[i]? = some (.rs (hold2 (w (enc x)) u (dn (enc y)))) := by
    rw [List.getElem?_set_ne (Ne.symm hij), List.getElem?_set_self hi]
  obtain ⟨v, F, a1, ⟨A, B, rfl, dAB, c1, c2⟩, a3, wr⟩ := st2.writeL ei
  have sA : Same A H := same_un1.trans a3
  have sB : Same B H := (same_un2 dAB).trans a3
  obtain ⟨u0, Fe, Fr, q1, ⟨a, xs, F', rfl, d1, d2, rfl⟩, q3, rfl, q4⟩ := L.run st.ints a1 (Dl.of c1) sA e1
  have hFa : un (upd F' a (.lst xs)) Fr a = some (.lst xs) := same_un1 _ _ upd_same
  have hH := sA _ _ hFa
  unfold app? at e3
  split at e3
  · rename_i hl
    cases e3
    have ll := DnA.len d1
    rw [List.length_map] at ll
    have Fra : Fr a = none := q3 a _ upd_same
    have Ba : B a = none := dAB a _ hFa
    have dFB : Dj F' B := fun b o z => dAB b o (same_un1 _ _ (by
      have cb : b ≠ a := fun c => by rw [c, d2] at z; cases z
      rw [upd_ne cb]; exact z))
    have dRB : Dj Fr B := fun b o z => dAB b o (same_un2 q3 _ _ z)
    have nFa : un F' B a = none := un_none.mpr ⟨d2, Ba⟩
    have djn : Dj (upd (un F' B) a (.lst (xs ++ [u]))) Fr := fun b o z => by
      by_cases cb : b = a
      · subst cb; exact Fra
      · rw [upd_ne cb] at z
        rcases un_some z with z | z
        · exact q3 b o (by rw [upd_ne cb]; exact z)
        · exact dRB.symm b o z
    have nA : DnA p G ((l ++ [y]).map enc) (xs ++ [u]) (un F' B) := by
      rw [List.map_append]
      exact DnA.append d1 (DnA.one c2) dFB
    have nd := q4 G (l ++ [y]) x' _ (.refl _) e4 ⟨a, xs ++ [u], un F' B, rfl, nA, nFa, rfl⟩ djn
    obtain ⟨w1, w2, w3⟩ := wr G H (.refl st2.gr.s)
    have es : σ = σ.set i (some v) := by
      obtain ⟨hi, he⟩ := List.getElem?_eq_some_iff.mp a1
      rw [← he, List.set_getElem_self]
    have st3 := w3 (w (enc x')) v (un (upd (un F' B) a (.lst (xs ++ [u]))) Fr) (upd H a (.lst (xs ++ [u]))) ⟨fun b o z => ?_, fun b z1 z2 => ?_, fun b o z1 z2 => ?_⟩ (Dl.back c1 nd)
    · rw [← es, set3 hij] at st3
      refine q1 _ ⟨.inl ⟨rfl, _, .of hH⟩, u, hu, ?_⟩
      refine ⟨a, xs, u, rfl, rfl, hH, Nat.lt_of_le_of_lt (show xs.length ≤ 100000 by omega) (by decide), ?_⟩
      exact k x' r e5 G0 H0 _ G _ st3 D (Po.mono (.refl _) q)
    · rcases un_some z with z | z
      · by_cases cb : b = a
        · subst cb; rw [upd_same] at z ⊢; exact z
        · rw [upd_ne cb] at z ⊢
          rcases un_some z with z | z
          · exact sA _ _ (same_un1 _ _ (by rw [upd_ne cb]; exact z))
          · exact sB _ _ z
      · have cb : b ≠ a := fun cb => by rw [cb, Fra] at z; cases z
        rw [upd_ne cb]; exact sA _ _ (same_un2 q3 _ _ z)
    · have cb : b ≠ a := fun cb => by
        subst cb
        rw [same_un1 _ _ hFa] at z1; cases z1
      rw [upd_ne cb]
    · exfalso
      have z2 := un_none.mp z2
      rcases un_some z1 with z | z
      · by_cases cb : b = a
        · subst cb; rw [hFa] at z2; cases z2.1
        · rw [upd_ne cb] at z
          rcases un_some z with z | z
          · have : un (upd F' a (.lst xs)) Fr b = some o := same_un1 _ _ (by rw [upd_ne cb]; exact z)
            rw [this] at z2; cases z2.1
          · rw [z] at z2; cases z2.2
      · have : un (upd F' a (.lst xs)) Fr b = some o := same_un2 q3 _ _ z
        rw [this] at z2; cases z2.1
  · cases e3
end
end PU

set_option Elab.async false
set_option maxRecDepth 100000
set_option linter.all false
/-! PU34: lists of unlike things; a while that may return; pop and extend of a list of one's own. -/
namespace PU
open PySem L2
open Enc
/-! ### data of any sort -/
def tyD : D → Option String
  | .non => some "NoneType"
  | .bl _ => some "bool"
  | .int _ => some "int"
  | .adr _ => none
  | .dE => some "dict"
  | .str _ => some "str"
  | .lst _ => some "list"
  | .tup _ => some "tuple"
  | .scr _ => none
  | .ins _ _ => none
theorem tyD_ok {p : Pm} {G H : Hp} {d : D} {t : String} {v : V} (h : tyD d = some t) (s : Same G H) (r : Rp p G d v) : TyX p.K H v (.type t) := by
  cases d with
  | non => cases h; rw [show v = .non from r]; exact .base .non
  | bl b => cases h; rw [show v = .bl b from r]; exact .base (.bl _)
  | int b => cases h; rw [show v = .int b from r]; exact .base (.int _)
  | str b => cases h; rw [show v = .str b from r]; exact .base (.str _)
  | lst ds =>
    cases h
    obtain ⟨a, xs, rfl, h1, _⟩ := r
    exact .base (.lst (s _ _ h1))
  | tup ds =>
    cases h
    obtain ⟨a, xs, rfl, h1, _⟩ := r
    exact .base (.tup (s _ _ h1))
  | scr ns => cases h
  | ins c fs => cases h
  | adr a => cases h
  | dE =>
    cases h
    obtain ⟨a, rfl, h1⟩ := r
    exact .base (.dK (s _ _ h1))
def isiD (n : String) (d : D) : Option Bool := (tyD d).bind fun t => kitB t n
def isNon : D → Bool
  | .non => true
  | _ => false
def itemsD : D → Option (List D)
  | .lst ds => some ds
  | .tup ds => some ds
  | _ => none
theorem isNon_ok {p : Pm} {G : Hp} {d : D} {v : V} (r : Rp p G d v) : decide (v = .non) = isNon d := by
  cases d with
  | non => rw [show v = .non from r]; rfl
  | bl b => rw [show v = .bl b from r]; rfl
  | int b => rw [show v = .int b from r]; rfl
  | str b => rw [show v = .str b from r]; rfl
  | lst ds =>
    obtain ⟨a, xs, rfl, h1, _⟩ := r
    rfl
  | tup ds =>
    obtain ⟨a, xs, rfl, h1, _⟩ := r
    rfl
  | scr ns =>
    obtain ⟨a, rfl, h1⟩ := r
    rfl
  | ins c fs =>
    obtain ⟨a, dx, xs, rfl, h1, _⟩ := r
    rfl
  | adr a => rw [show v = .ref a from r]; rfl
  | dE =>
    obtain ⟨a, rfl, h1⟩ := r
    rfl
section
variable {p : Pm} {env : List Sl} {te ta tb : TE} {α β γ st : Type} [Enc α] [Enc β] [Enc γ] {e1 : st → List Sl}
theorem ev_D {nw : Bool} {ma : Option α} (h : Ev p nw te env ma) : Ev p nw te env (ma.bind fun x => some (enc x : D)) := fun y e => by
  obtain ⟨x, e1, e2⟩ := bind_some e
  cases e2
  exact h x e1
/-- items that change nothing -/
theorem le_none : EvLE p 0 tNil env (fun _ : Unit => env) (some (([] : List α), ())) := le_nil0 rfl
theorem ee_D {m : Option (α × st)} (h : EvE p te env e1 m) : EvE p te env e1 (thn2 m fun x s => some ((enc x : D), s)) := fun z e G0 H0 σ G H S Q k => by
  obtain ⟨x, ex, e⟩ := bind_some (show m.bind (fun q => some ((enc q.1 : D), q.2)) = some z from e)
  cases e
  exact h x ex G0 H0 σ G H S Q k
theorem ev_isiD {ma : Option D} {n : String} (h : Ev p false te env ma) : Ev p false (tCB (rIsi p.K) (tCons te (tCons (tC (.ty n)) tNil))) env (ma.bind fun d => isiD n d) := fun z e G0 H0 σ G H s Q k => by
  obtain ⟨x, e1, e⟩ := bind_some e
  obtain ⟨t, e2, e3⟩ := bind_some e
  refine h x e1 G0 H0 σ G H s _ fun v G1 H1 g1 r1 => ?_
  exact ⟨v, .ty n, .type t, .type n, z, rfl, .ty n, tyD_ok e2 g1.s r1, kit_ty e3, k _ G1 H1 g1 rfl⟩
theorem ev_isND {ma : Option D} (h : Ev p false ta env ma) : Ev p false (tOp (fun x y H Q => y = .non ∧ Q (.bl (decide (x = .non))) H) ta (tC .non)) env (ma.bind fun x => some (isNon x)) := fun z e G0 H0 σ G H s Q k => by
  obtain ⟨x, e1, e⟩ := bind_some e
  cases e
  refine h x e1 G0 H0 σ G H s _ fun v G1 H1 g1 r1 => ⟨rfl, k _ G1 H1 g1 ?_⟩
  show V.bl (decide (v = .non)) = .bl (isNon x)
  rw [isNon_ok (d := x) r1]
theorem ev_notND {ma : Option D} (h : Ev p false ta env ma) : Ev p false (tOp (fun x y H Q => y = .non ∧ Q (.bl (!decide (x = .non))) H) ta (tC .non)) env (ma.bind fun x => some (!isNon x)) := fun z e G0 H0 σ G H s Q k => by
  obtain ⟨x, e1, e⟩ := bind_some e
  cases e
  refine h x e1 G0 H0 σ G H s _ fun v G1 H1 g1 r1 => ⟨rfl, k _ G1 H1 g1 ?_⟩
  show V.bl (!decide (v = .non)) = .bl (!isNon x)
  rw [isNon_ok (d := x) r1]
theorem ev_listD {ma : Option D} (h : Ev p false te env ma) : Ev p true (tCB (rListQ p.K) (tCons te tNil)) env (ma.bind fun d => itemsD d) := ev_cb1 h fun d z e G H vs s r Q k => by
  obtain ⟨v, ws, rfl, r, rfl⟩ := r
  cases d with
  | lst ds =>
    cases e
    obtain ⟨a, us, rfl, h1, h2⟩ := r
    refine ⟨a, us, rfl, .inl (.of (s _ _ h1)), fun l hl => k _ G _ (.own s hl) ⟨l, us, _, rfl, show D.lst (z.map id) = _ by rw [List.map_id], hl, s.free hl, upd_same, h2⟩⟩
  | tup ds =>
    cases e
    obtain ⟨a, us, rfl, h1, h2⟩ := r
    refine ⟨a, us, rfl, .inr (.of (s _ _ h1)), fun l hl => k _ G _ (.own s hl) ⟨l, us, _, rfl, show D.lst (z.map id) = _ by rw [List.map_id], hl, s.free hl, upd_same, h2⟩⟩
  | _ => cases e
theorem rv_cat {p : Pm} {α : Type} [Enc α] {xs ys : List α} : RvOp p true rCat (enc xs) (enc ys) (cat? xs ys) := by
  intro z e G H v w s rv rw' Q k
  unfold cat? at e
  split at e
  · rename_i c
    cases e
    obtain ⟨a, vs, rfl, h1, h2⟩ := rv
    obtain ⟨b, ws, rfl, h3, h4⟩ := rw'
    have l1 := h2.length
    have l2 := h4.length
    rw [List.length_map] at l1 l2
    refine ⟨a, b, vs, ws, rfl, rfl, s _ _ h1, s _ _ h3, sz_of (by omega), fun q hq => ?_⟩
    refine k _ G _ (.own s hq) ⟨q, vs ++ ws, xs.map enc ++ ys.map enc, rfl, ?_, hq, s.free hq, upd_same, h2.append h4⟩
    rw [← List.map_append]; rfl
  · cases e
/-- found anew: an operation that makes a list gives a value -/
theorem rv_weak {r : R2} {d e : D} {m : Option α} (h : RvOp p true r d e m) : RvOp p false r d e m := fun z ez G H v w s rv rw' Q k =>
  h z ez G H v w s rv rw' Q fun u G' H' g r' => by
    obtain ⟨l, vs, ds, rfl, e2, h1, h2, h3, h4⟩ := r'
    refine k _ _ H' (g.take h1 h3 h2) ?_
    rw [e2]
    exact ⟨l, vs, rfl, upd_same, RpA.mono (same_new h2) _ h4⟩
end

/-! ### == of data of any sort -/
mutual
def pdD : D → PyData
  | .non => .none
  | .bl b => .bool b
  | .int i => .int i
  | .adr _ => .none
  | .dE => .none
  | .str x => .str x
  | .lst ds => .list (pdA ds)
  | .tup ds => .tuple (pdA ds)
  | .scr _ => .none
  | .ins _ _ => .none
def pdA : List D → List PyData
  | [] => []
  | d :: ds => pdD d :: pdA ds
end
mutual
/-- numbers, truths, texts, None, lists and tuples of them -/
def plnD : D → Bool
  | .non => true
  | .bl _ => true
  | .int _ => true
  | .adr _ => false
  | .dE => false
  | .str _ => true
  | .lst ds => plnA ds
  | .tup ds => plnA ds
  | .scr _ => false
  | .ins _ _ => false
def plnA : List D → Bool
  | [] => true
  | d :: ds => plnD d && plnA ds
end
mutual
theorem dpD {p : Pm} {G : Hp} : ∀ (d : D) {v : V}, plnD d = true → Rp p G d v → Dp p.K G v (pdD d)
  | .non, _, _, r => by rw [show _ = V.non from r]; exact .non
  | .bl b, _, _, r => by rw [show _ = V.bl b from r]; exact .bl b
  | .int b, _, _, r => by rw [show _ = V.int b from r]; exact .int b
  | .str b, _, _, r => by rw [show _ = V.str b from r]; exact .str b
  | .lst ds, _, h, r => by
    obtain ⟨a, xs, rfl, h1, h2⟩ := r
    exact .lst (.of h1) (dpA ds h h2)
  | .tup ds, _, h, r => by
    obtain ⟨a, xs, rfl, h1, h2⟩ := r
    exact .tup (.of h1) (dpA ds h h2)
  | .scr _, _, h, _ => nomatch h
  | .adr _, _, h, _ => nomatch h
  | .dE, _, h, _ => nomatch h
  | .ins _ _, _, h, _ => nomatch h
theorem dpA {p : Pm} {G : Hp} : ∀ (ds : List D) {vs : List V}, plnA ds = true → RpA p G ds vs → DpAll p.K G vs (pdA ds)
  | [], vs, _, r => by rw [show vs = [] from r]; exact .nil
  | d :: ds, _, h, r => by
    obtain ⟨v, vs, rfl, h2, h3⟩ := r
    have h : (plnD d && plnA ds) = true := h
    rw [Bool.and_eq_true] at h
    exact .cons (dpD d h.1 h2) (dpA ds h.2 h3)
end
def okD (d : D) : Bool := plnD d && SeqAt.shaped (pdD d)
/-- == of two things of any sort -/
def eqD? (d e : D) : Option Bool := if okD d = true ∧ okD e = true then some (PyData.eqv (pdD d) (pdD e)) else none
section
variable {p : Pm} {env : List Sl} {te ta tb : TE} {α β γ : Type} [Enc α] [Enc β] [Enc γ]
theorem rv_neDD {d e : D} : RvOp p false (rNeD p.K) d e ((eqD? d e).bind fun b => some (!b)) := fun z ez G H v w s rv rw' Q k => by
  obtain ⟨b, eb, ez⟩ := bind_some ez
  cases ez
  unfold eqD? at eb
  split at eb
  · rename_i c
    cases eb
    obtain ⟨c1, c2⟩ := c
    unfold okD at c1 c2
    rw [Bool.and_eq_true] at c1 c2
    exact ⟨_, _, dpD d c1.1 (Rp.mono s _ rv), dpD e c2.1 (Rp.mono s _ rw'), c1.2, c2.2, k _ G H (.refl s) rfl⟩
  · cases eb
theorem rv_eqDD {d e : D} : RvOp p false (rEqD p.K) d e (eqD? d e) := fun z eb G H v w s rv rw' Q k => by
  unfold eqD? at eb
  split at eb
  · rename_i c
    cases eb
    obtain ⟨c1, c2⟩ := c
    unfold okD at c1 c2
    rw [Bool.and_eq_true] at c1 c2
    exact ⟨_, _, dpD d c1.1 (Rp.mono s _ rv), dpD e c2.1 (Rp.mono s _ rw'), c1.2, c2.2, k _ G H (.refl s) rfl⟩
  · cases eb
theorem ev_neDD {ma : Option α} {mb : Option β} (ha : Ev p false ta env ma) (hb : Ev p false tb env mb) : Ev p false (tOp (rNeD p.K) ta tb) env (ma.bind fun x => mb.bind fun y => (eqD? (enc x) (enc y)).bind fun b => some (!b)) := ev_op ha hb fun x y => rv_neDD
theorem ev_eqDD {ma : Option α} {mb : Option β} (ha : Ev p false ta env ma) (hb : Ev p false tb env mb) : Ev p false (tOp (rEqD p.K) ta tb) env (ma.bind fun x => mb.bind fun y => eqD? (enc x) (enc y)) := ev_op ha hb fun x y => rv_eqDD
theorem own_neDD {i : Nat} {xs : List α} {mb : Option β} (h : env[i]? = some (.ow (xs.map enc))) (hb : Ev p false tb env mb) : Ev p false (tOp (rNeD p.K) (tVar i) tb) env (mb.bind fun y => (eqD? (enc xs) (enc y)).bind fun b => some (!b)) :=
  own_op (f := fun xs y => (eqD? (enc xs) (enc y)).bind fun b => some (!b)) h hb (fun y => rv_neDD) (fun z G v h G' => h) rfl
end

/-! ### a while that may return -/
section
variable {p : Pm} {env : List Sl} {te ta : TE} {t tz : TS} {s α β γ ρ : Type} [Enc α] [Enc β] [Enc γ] {Po : Post ρ} {i j : Nat}
def whB (c : s → Option Bool) (f : s → Option (Rr s β)) : Nat → s → Option (Rr s β)
  | 0, _ => none
  | n + 1, x => (c x).bind fun b => if b = true then (f x).bind fun r => match r with
    | .nx y => whB c f n y
    | .rt y => some (.rt y) else some (.nx x)
theorem k_whileB {nw : Bool} {tt : TT} {c : s → Option Bool} {f : s → Option (Rr s β)} {envS : s → List Sl} {n : Nat} {x0 : s} (h0 : leE env (envS x0)) (hc : ∀ x, EvT p tt (envS x) (c x)) (hb : ∀ x, Bk p t (envS x) (f x) (pB p nw envS)) : Bk p (tWhile tt t) env (whB c f n x0) (pB p nw envS) := fun r e G0 H0 σ G H st D q => by
  refine ⟨fun m σ' H' => ∃ x G', whB c f m x = some r ∧ Sts p G0 H0 (envS x) σ' G' H' ∧ Same G G', ⟨n, x0, G, e, st.le h0, .refl _⟩, ?_⟩
  rintro m σ' H' ⟨x, G', hf, s', sg⟩
  cases m with
  | zero => cases hf
  | succ m =>
    obtain ⟨b, e1, hf⟩ := bind_some hf
    refine hc x b e1 G0 H0 σ' G' H' s' _ fun G1 H1 g1 => ?_
    cases b with
    | false =>
      cases hf
      exact q σ' G1 H1 (s'.step g1) (sg.trans g1.g)
    | true =>
      obtain ⟨y, e2, hf⟩ := bind_some hf
      show ∃ N : St → Hp → Prop, _
      refine ⟨fun σ2 H2 => ∃ x G', whB c f m x = some r ∧ Sts p G0 H0 (envS x) σ2 G' H2 ∧ Same G G', fun σ2 H2 z => ⟨m, Nat.lt_succ_self m, z⟩, ?_⟩
      refine hb x y e2 G0 H0 σ' G1 H1 (s'.step g1) _ ?_
      cases y with
      | nx y => exact fun σ4 G4 H4 s4 sg4 => ⟨y, G4, hf, s4, (sg.trans g1.g).trans sg4⟩
      | rt y =>
        cases hf
        exact q
/-- y = found.pop() -/
theorem k_popO {xs : List α} {rest : α → List α → Option ρ} (h : env[i]? = some (.ow (xs.map enc))) (hij : i ≠ j) (k : ∀ y ys, Bk p tz ((env.set i (.ow (ys.map enc))).set j (.va (enc y))) (rest y ys) Po) :
    Bk p (tSeq (tAsg (tBM0 p.K "list" rPop (tVar i)) (gName j)) tz) env (xs.getLast?.bind fun y => rest y xs.dropLast) Po := fun r e G0 H0 σ G H st D q => by
  obtain ⟨y, e1, e⟩ := bind_some e
  obtain ⟨Fs, f⟩ := st.rs
  obtain ⟨v, a1, ⟨l0, vs0, rfl, eF, h2⟩, a3, a4⟩ := f.wh i _ h
  have hxs : xs = xs.dropLast ++ [y] := by
    obtain ⟨ys, hl⟩ := List.getLast?_eq_some_iff.mp e1
    rw [hl, List.dropLast_concat]
  refine st.put h fun l vs b1 b2 b3 _ b4 => ?_
  rw [a1] at b1; cases b1
  have l1 := b3.length
  rw [List.length_map] at l1
  have hp : 0 < xs.length := by rw [hxs]; simp
  have ex : (xs.map enc)[xs.length - 1]? = some (enc y) := by
    rw [List.getElem?_map]
    have : xs[xs.length - 1]? = some y := by rw [← List.getLast?_eq_getElem?]; exact e1
    rw [this]; rfl
  obtain ⟨u, hu, ru⟩ := b3.get ex
  refine ⟨.ref l0, a1, .inl ⟨rfl, _, .of b2⟩, l0, vs, u, rfl, rfl, b2, by rw [← l1]; exact hu, ?_⟩
  have b5 := b4 (xs.dropLast.map enc) vs.dropLast (by
    rw [List.dropLast_eq_take, List.dropLast_eq_take, List.map_take, ← l1]
    exact b3.take _)
  exact k y xs.dropLast r e G0 H0 _ G _ (b5.set_va ru) D q
/-- found.extend(e) -/
theorem k_extO {xs : List α} {me : Option (List α)} {rest : List α → Option ρ} (h : env[i]? = some (.ow (xs.map enc))) (he : Ev p false te env me) (k : ∀ ys, Bk p tz (env.set i (.ow (ys.map enc))) (rest ys) Po) :
    Bk p (tSeq (tDrop (tBM p.K "list" rExtend (tVar i) (tCons te tNil))) tz) env (me.bind fun x => (cat? xs x).bind rest) Po := fun r e G0 H0 σ G H st D q => by
  obtain ⟨x, e1, e⟩ := bind_some e
  obtain ⟨ys, e2, e⟩ := bind_some e
  unfold cat? at e2
  split at e2
  · rename_i hl
    cases e2
    obtain ⟨Fs, f⟩ := st.rs
    obtain ⟨v, a1, ⟨l0, vs0, rfl, eF, h2⟩, a3, a4⟩ := f.wh i _ h
    refine ⟨.ref l0, a1, .inl ⟨rfl, _, .of (a3 _ _ (by rw [eF]; exact upd_same))⟩, ?_⟩
    refine he x e1 G0 H0 σ G H st _ fun u G1 H1 g1 r1 => ?_
    obtain ⟨b, zs, rfl, r2, r3⟩ := r1
    refine (st.step g1).put h fun l vs b1 b2 b3 _ b4 => ?_
    rw [a1] at b1; cases b1
    have l1 := b3.length
    have l2 := r3.length
    rw [List.length_map] at l1 l2
    refine ⟨l0, b, vs, zs, rfl, rfl, b2, g1.s _ _ r2, Nat.le_trans (show vs.length + zs.length ≤ 100000 by omega) (by decide), ?_⟩
    refine k (xs ++ x) r e G0 H0 σ G1 _ ?_ D (Po.mono g1.g q)
    rw [List.map_append]
    exact b4 _ _ (b3.append r3)
  · cases e2
end
end PU

set_option Elab.async false
set_option maxRecDepth 100000
set_option linter.all false
set_option maxHeartbeats 4000000
/-! PU35: lambdas: made, handed on, called elsewhere; what they capture. -/
namespace PU
open PySem PySem.Spec PyProof.Rows L2
open LamX (TabB TabS Tabs ExtN CodeO codeO_ne among_app inv_table)
open NdefX (NF NScope CellsAt startF envF ncx inv_startN Caps cells_of slotAt codeO_at)
/-- a lambda's words, the cells that it captured, its code object -/
structure LF where
  qual : Str
  params : Arguments
  body : Expr
  scope : Scope
  cl : List (Str × Addr)
  c : Addr
abbrev LF.ob (F : LF) (pm ctv : Value) : Obj := PySem.W.kla_obj "<lambda>" F.qual F.params F.body F.scope F.cl pm F.c ctv
abbrev LF.fd (F : LF) (pm ctv : Value) : FuncData := PySem.W.kla_fn "<lambda>" F.qual F.params F.body F.scope F.cl pm (.ref F.c) ctv
abbrev LF.nf (F : LF) : NF := ⟨"<lambda>", F.qual, F.params, [], F.scope, F.cl, F.c⟩
/-- the object at f is the lambda F -/
def LamO (f : Addr) (F : LF) : HO := .ext fun h => ∃ pm ctv : Value, h.get? f = some (F.ob pm ctv)
theorem lamO_ne {f : Addr} {F : LF} (ps : Array Value) : LamO f F ≠ .tbl ps := fun z => by
  unfold LamO at z
  cases z
theorem lamO_at {P : Program} {w : World} {H : Hp} {h : Heap} {f : Addr} {F : LF} (hok : HOk P w H h) (e : H f = some (LamO f F)) : ∃ pm ctv : Value, h.get? f = some (F.ob pm ctv) := by
  obtain ⟨z, _, _⟩ := hok f _ e
  exact z
section
variable {X : Cx} {pins : List (Addr × Obj)} {σ : L2.St} {H : Hp} {s : Shared}
theorem inv_lam {F : LF} {o : Obj} {t' : Nat} {pm ctv : Value} (I : Inv X pins σ H s) (ho : o = F.ob pm ctv) :
    Inv X pins σ (upd H s.heap.objs.size (LamO s.heap.objs.size F)) { s with heap := s.heap.push o, toks := t' } := by
  subst ho
  refine I.laid (a := s.heap.objs.size) (fun b u e => Heap.get?_push_of_some _ e) (Nat.le_refl _) ?_
  have e : (s.heap.push (F.ob pm ctv)).get? s.heap.objs.size = some (F.ob pm ctv) := Heap.get?_push_size _ rfl
  exact ⟨⟨pm, ctv, e⟩, ⟨_, e⟩, fun h1 h2 ⟨p, t, z⟩ st => ⟨p, t, st _ z⟩⟩
/-- a lambda is made: its code object is new, or found in the table -/
theorem lam_mk {c P : Addr} {params : Arguments} {body : Expr} {scope : Scope} {pos : Pos} {E : Value → Shared → Prop} {Q : Value → Shared → Prop} (I : Inv X pins σ H s) (TB : TabB X.base X.mg c P) (hcode : X.env.code = .ref c)
    (hT : TabS H P (X.env.qual ++ "<lambda>")) (hdef : defaultsOf params X.env = ([], [])) (hfree : ∀ y ∈ scope.names, y.2 = .free → ∃ c, X.env.cells.lookup y.1 = some c)
    (h : ∀ (f c' : Addr) (ps ps' : Array Value) (H1 : Hp) (s' : Shared), Inv X pins σ H1 s' → H P = some (.tbl ps) → H1 P = some (.tbl ps') → TriplesOk ps'.toList → (∀ (p' : Pos) cv, codeAmong p' ps'.toList = some cv → ∃ c, cv = .ref c ∧ H1 c = some (CodeO c (X.env.qual ++ "<lambda>"))) →
      (∀ b, b ≠ P → b ≠ f → b ≠ c' → H1 b = H b) → H f = none → f ≠ c' → f ≠ P → c' ≠ P → (H c' = none ∨ ∃ p', codeAmong p' ps.toList = some (.ref c')) → (∀ (p' : Pos) cv, codeAmong p' ps'.toList = some cv → codeAmong p' ps.toList = some cv ∨ cv = .ref c') →
      H1 f = some (LamO f ⟨X.env.qual ++ "<lambda>", params, body, scope, cloFrom X.env.cells scope.names [], c'⟩) → H1 c' = some (CodeO c' (X.env.qual ++ "<lambda>")) → Q (.ref f) s') :
    wpAny (model X.prog X.w) X.A (eval (.Lambda params body scope pos) X.env) Q E s := by
  obtain ⟨ps, hP, ht, ha⟩ := hT
  refine PySem.W.kla_eval hdef ?_
  have bP : s.heap.BuiltinsAt X.mg P := TB.bm.keeps I.bk
  have hP' : s.heap.get? P = some { cls := .none, data := .fields ps } := I.hok P _ hP
  cases hc : codeAmong pos ps.toList with
  | none =>
    refine PySem.W.kla_makeFunction (mg := X.mg) (c := c) (P := P) (ps := ps) (closure_ok hfree) I.ok.glob (I.mod.glob.keeps I.bk) hcode (TB.code.keeps I.bk) hP' ht hc TB.gP bP fun c' ctv h' tk hx hge hlt hrec htb => ?_
    obtain ⟨c2, oc, vs, t, e2, hoc, hd, hv⟩ := hrec
    cases e2
    have hsz : s.heap.objs.size ≤ h'.objs.size := Nat.le_trans hge (Nat.le_of_lt hlt)
    have nC : H c' = none := I.hok.fresh hge
    have nF : H h'.objs.size = none := I.hok.fresh hsz
    have n1 : h'.objs.size ≠ c' := Nat.ne_of_gt hlt
    have n2 : h'.objs.size ≠ P := Nat.ne_of_gt (Nat.lt_of_lt_of_le (Heap.lt_size hP') hsz)
    have n3 : c' ≠ P := fun z => by rw [z, hP] at nC; cases nC
    have I1 := inv_table (t' := tk) (more := #[rawInt pos.line, rawInt pos.col, .ref c']) (h' := h') I hP (fun b o hb e => hx b o hb e) htb hge ⟨oc, vs, t, hoc, hd, hv⟩
    have I2 := inv_lam (F := ⟨X.env.qual ++ "<lambda>", params, body, scope, cloFrom X.env.cells scope.names [], c'⟩) (t' := tk) (pm := (X.mg "__name__").getD .none) (ctv := ctv) I1 rfl
    have eL : (ps ++ #[rawInt pos.line, rawInt pos.col, .ref c']).toList = ps.toList ++ [rawInt pos.line, rawInt pos.col, .ref c'] := by simp
    refine h h'.objs.size c' ps (ps ++ #[rawInt pos.line, rawInt pos.col, .ref c']) _ _ I2 hP ?_ (by rw [eL]; exact PySem.TriplesOk_snoc _ _ _ _ ht) (fun p' cv hcv => ?_) (fun b b1 b2 b3 => ?_) nF n1 n2 n3 (.inl nC) (fun p' cv hcv => by rw [eL] at hcv; exact among_app _ ht hcv) upd_same ?_
    · show upd _ _ _ P = _
      rw [upd_ne (Ne.symm n2), upd_ne (Ne.symm n3), upd_same]
    · rw [eL] at hcv
      rcases among_app _ ht hcv with z | z
      · obtain ⟨c0, e1, e2⟩ := ha p' cv z
        refine ⟨c0, e1, ?_⟩
        show upd _ _ _ c0 = _
        rw [upd_ne (ne_of_none e2 nF), upd_ne (ne_of_none e2 nC), upd_ne (fun q => by rw [q, hP] at e2; exact codeO_ne ps (Option.some.inj e2).symm)]
        exact e2
      · refine ⟨c', z, ?_⟩
        show upd _ _ _ c' = _
        rw [upd_ne (Ne.symm n1), upd_same]
    · show upd _ _ _ b = _
      rw [upd_ne b2, upd_ne b3, upd_ne b1]
    · show upd _ _ _ c' = _
      rw [upd_ne (Ne.symm n1), upd_same]
  | some cv =>
    obtain ⟨c', e, hco⟩ := ha pos cv hc
    subst e
    refine PySem.W.kla_makeFunctionHit (mg := X.mg) (c := c) (P := P) (ps := ps) (closure_ok hfree) I.ok.glob (I.mod.glob.keeps I.bk) hcode (TB.code.keeps I.bk) hP' ht hc bP fun ctv h' tk hx hsz => ?_
    have I1 : Inv X pins σ H { s with heap := h', toks := tk } := I.kept hx
    have nF : H h'.objs.size = none := I1.hok.fresh (Nat.le_refl _)
    have n1 : h'.objs.size ≠ c' := fun z => by rw [z, hco] at nF; cases nF
    have n2 : h'.objs.size ≠ P := fun z => by rw [z, hP] at nF; cases nF
    have n3 : c' ≠ P := fun z => by rw [z, hP] at hco; exact codeO_ne ps (Option.some.inj hco).symm
    have I2 := inv_lam (F := ⟨X.env.qual ++ "<lambda>", params, body, scope, cloFrom X.env.cells scope.names [], c'⟩) (t' := tk) (pm := (X.mg "__name__").getD .none) (ctv := ctv) I1 rfl
    refine h h'.objs.size c' ps ps _ _ I2 hP ?_ ht (fun p' cv hcv => ?_) (fun b b1 b2 b3 => ?_) nF n1 n2 n3 (.inr ⟨_, hc⟩) (fun p' cv hcv => .inl hcv) upd_same ?_
    · show upd _ _ _ P = _
      rw [upd_ne (Ne.symm n2)]
      exact hP
    · obtain ⟨c0, e1, e2⟩ := ha p' cv hcv
      refine ⟨c0, e1, ?_⟩
      show upd _ _ _ c0 = _
      rw [upd_ne (ne_of_none e2 nF)]
      exact e2
    · show upd _ _ _ b = _
      rw [upd_ne b2]
    · show upd _ _ _ c' = _
      rw [upd_ne (Ne.symm n1)]
      exact hco
end

/-! ### what a lambda promises -/
structure LOk (P : Program) (w : World) (K : PySem.W.Frag) (mg : Str → Option Value) (base : Heap) (CX : CXT) (k : Nat) (f : Addr) (F : LF) (ps fr : List Str) (sp : List (Option V) → Sp) : Prop where
  len : ∀ ws vs H Q E, sp ws vs H Q E → vs.length = ps.length
  run : ∀ (A : Around) (outer : List Env) (s : Shared) (H : Hp) (us : List Value) (vs : List V) (ws : List (Option V)) (Q : VK) (E : XK), Room k A → Env0 P w K mg base A outer s H → H f = some (LamO f F) → H F.c = some (CodeO F.c F.qual) →
    CellsAt F.cl fr ws s.heap H → Vals vs us → sp ws vs H Q E → codeAny (model P w) A (.call (.ref f) ⟨us, []⟩) (CR CX outer P w H s Q E) s
section
variable {CX : CXT} {P : Program} {w : World} {K : PySem.W.Frag} {mg : Str → Option Value} {base : Heap} {N ps fr : List Str} {F : LF} {f : Addr} {k j : Nat} {sp sp' : List (Option V) → Sp}
theorem LOk.imp (o : LOk P w K mg base CX k f F ps fr sp) (h : ∀ ws vs H Q E, sp' ws vs H Q E → sp ws vs H Q E) : LOk P w K mg base CX k f F ps fr sp' :=
  ⟨fun ws vs H Q E q => o.len ws vs H Q E (h _ _ _ _ _ q), fun A outer s H us vs ws Q E hr e0 hf hc C r q => o.run A outer s H us vs ws Q E hr e0 hf hc C r (h _ _ _ _ _ q)⟩
/-- a lambda by its body -/
theorem lok_of (S : NScope N ps fr F.scope) (hb : ∀ (pm ctv : Value) (us : List Value), us.length = ps.length → bindArgs (F.fd pm ctv) ⟨us, []⟩ = pure (ps.zip us)) (len : ∀ ws vs H Q E, sp ws vs H Q E → vs.length = ps.length)
    (hbody : ∀ (A : Around) (outer : List Env) (s : Shared) (H : Hp) (vs : List V) (ws : List (Option V)) (Q : VK) (E : XK), Room k (A.deeper (envF F.nf f s.heap.objs.size)) → ws.length = fr.length → sp ws vs H Q E →
      ∃ t, PE (ncx CX P w K mg base N F.nf f A outer s H E) F.body t ∧ t (startF N vs ws) H Q) :
    LOk P w K mg base CX (k + 1) f F ps fr sp := by
  refine ⟨len, fun A outer s H us vs ws Q E hr e0 hf hc C r hsp => ?_⟩
  have hl := len _ _ _ _ _ hsp
  have lim : s.heap.NoLimit := e0.mod.nolimit.keeps fun b o e => (e0.bs b o e).1
  obtain ⟨pm, ctv, ho⟩ := lamO_at e0.hok hf
  refine PySem.W.kla_callFunE hr.depth ho rfl S.co S.gen rfl (codeO_at e0.hok hc) ?_
  rw [hb pm ctv us (by rw [← r.length]; exact hl)]
  refine wpAny_pure (wpAny_newFunctionEnv S.nocell (fun ⟨n, _⟩ hy => S.par n (List.of_mem_zip hy).1) (fun h₁ hns hsb => ⟨lim.fresh _ hsb, ?_⟩) S.kind)
  show codeAny _ _ (.expr F.body (envF F.nf f s.heap.objs.size)) _ _
  have kp : ∀ b o, s.heap.get? b = some o → h₁.get? b = some o := fun b o e => hsb.extBut b o (Nat.ne_of_lt (Heap.lt_size e)) (Heap.get?_push_of_some _ e)
  obtain ⟨t, ht, hq⟩ := hbody A outer s H vs ws Q E (hr.deeper _) C.len hsp
  have I : Inv (ncx CX P w K mg base N F.nf f A outer s H E) [] (startF N vs ws) H { s with heap := h₁, toks := s.toks + (ps.zip us).length } := inv_startN (F := F.nf) S hr.hd e0 hl r C hns kp
  refine PySem.W.kla_codeExpr (wpAny_mono (ht.run [] _ (startF N vs ws) H Q I hq) (fun v s' hq => ?_) fun e s' hq => hq)
  obtain ⟨v', H', J, rv, q⟩ := hq
  exact ⟨v', H', J.os, J.bare, J.base, J.hok, rv, q⟩
end
/-! ### the call -/
section
variable {X : Cx} {pins : List (Addr × Obj)} {σ : L2.St} {H : Hp} {s : Shared} {cl : List (Str × Addr)} {fr : List Str} {ws : List (Option V)}
/-- what the cells held when the running frame began they hold still -/
theorem cells_later (C : CellsAt cl fr ws X.s_0.heap X.H_0) (hx : X.ex = []) (I : Inv X pins σ H s) : CellsAt cl fr ws s.heap H := by
  have nx : ∀ b, b ∉ X.ex := fun b z => by rw [hx] at z; cases z
  have kp : ∀ y c, cl.lookup y = some c → ∀ v, X.s_0.heap.IsCell c v → s.heap.IsCell c v := fun y c e v ⟨o, ho, hd⟩ => by
    obtain ⟨sl, q⟩ := I.base.any ho (C.all y c e).1 (nx c)
    exact ⟨_, q, hd⟩
  refine ⟨C.len, fun y c e => ?_, C.inj, fun i y e => ?_⟩
  · obtain ⟨n, v, z⟩ := C.all y c e
    refine ⟨?_, v, kp y c e v z⟩
    obtain ⟨o, ho, _⟩ := z
    exact I.base.free c o ho n (nx c)
  · obtain ⟨c, hc, hv⟩ := C.has i y e
    refine ⟨c, hc, fun v ev => ?_⟩
    obtain ⟨u, r, z⟩ := hv v ev
    exact ⟨u, r, kp y c hc _ z⟩
/-- a lambda stands at f in H -/
def LamAt (f : Addr) (F : LF) (H : Hp) : Prop := H f = some (LamO f F) ∧ H F.c = some (CodeO F.c F.qual)
theorem LamAt.same {f : Addr} {F : LF} {H H' : Hp} (h : LamAt f F H) (s : Same H H') : LamAt f F H' := ⟨s _ _ h.1, s _ _ h.2⟩
theorem lam_fnAt {f : Addr} {F : LF} (I : Inv X pins σ H s) (e : H f = some (LamO f F)) : PySem.W.FnAt f s.heap := by
  obtain ⟨pm, ctv, ho⟩ := lamO_at I.hok e
  exact ⟨_, _, _, _, ho⟩
end
/-- a(..), a a name of this def that holds the lambda F at f; E: what it may raise, at the slots -/
def tAct (i : Nat) (f : Addr) (F : LF) (ws : List (Option V)) (sp : List (Option V) → Sp) (E : L2.St → XK) (t : TA) : TE := fun σ H Q => σ[i]? = some (some (.ref f)) ∧ LamAt f F H ∧ t σ H fun vs H1 => LamAt f F H1 ∧ sp ws vs H1 Q (E σ)
section
variable {X : Cx} {CX : CXT} {F : LF} {f : Addr} {ps fr : List Str} {ws : List (Option V)} {i j k : Nat} {a : Str} {sp : List (Option V) → Sp} {E : L2.St → XK} {t : TA} {e : Expr} {es : List Expr} {p pos : Pos}
theorem pe_act (Fn : LOk X.prog X.w X.K X.mg X.base CX k f F ps fr sp) (C : CellsAt F.cl fr ws X.s_0.heap X.H_0) (hex : X.ex = []) (hr : Room j X.A) (hk : k ≤ j) (hx : ∀ σ, PassesAt CX X σ (E σ)) (hN : X.N[i]? = some a) (hv : Vis X.env.scope a) (ha : PA X (e :: es) t)
    (hd : (a == ("__debug__" : Str)) = false := by decide) (hcd : (a == ("__classdict__" : Str)) = false := by decide)
    (he : starEach (e :: es) X.env = (false, eval e X.env) :: starEach es X.env := by rfl) (hpl : (backTo pos (starEach es X.env)).any (·.1) = false := by rfl) :
    PE X (.Call (.Name a p) (e :: es) [] pos) (tAct i f F ws sp E t) := by
  refine ⟨fun pins s σ H Q I h => ?_⟩
  obtain ⟨hs, hf, ht⟩ := h
  refine wpAny_Call_Name_kw (thn ((pe_var (pos := p) hN hv hd hcd).run pins s σ H (fun v H1 => v = .ref f ∧ H1 = H) I ⟨.ref f, hs, rfl, rfl⟩) fun u s1 ⟨v, H1, I1, r1, q1⟩ => ?_)
  obtain ⟨ev, eH⟩ := q1
  subst ev
  rw [eH] at I1
  obtain rfl : u = Value.ref f := r1
  refine PySem.W.callWith_F (first := []) (lam_fnAt I1 hf.1) (thn (ha.run pos pins s1 σ H _ I1 ht) fun us s2 ⟨vs, H2, I2, r, h1, q⟩ => ⟨lam_fnAt I2 h1.1, ?_⟩) he hpl
  show wpAny _ _ (call (.ref f) us) _ _ _
  refine wpAny_call (codeAny_mono (Fn.run X.A X.stack s2 H2 us vs ws Q (E σ) (hr.mono hk) I2.env0 h1.1 h1.2 (cells_later C hex I2) r q) fun r s' hq => ?_)
  cases r with
  | error e => exact hx σ pins H2 s2 e s' I2 hq
  | ok fl =>
    cases fl with
    | ret u => exact I2.after hq
    | next => exact False.elim hq
    | brk => exact False.elim hq
    | cont => exact False.elim hq
end
end PU

set_option Elab.async false
set_option maxRecDepth 100000
set_option linter.all false
set_option maxHeartbeats 4000000
/-! PU36: defs that raise; a def that asks a lambda. -/
namespace PU
open PySem PySem.Spec PyProof.Rows L2
open LamX (TabB TabS CodeO codeO_ne)
open NdefX (NF NScope CellsAt startF envF ncx Caps cells_of slotAt)
open Enc
section
variable {X : Cx} {st : Stmt} {rest : List Stmt} {t : TS}
/-- a statement behind which nothing is reached -/
def tStop (t : TS) : TS := fun D σ H => t { D with nx := fun _ _ => False } σ H
theorem pss_stop (h1 : PS X st t) : PSs X (st :: rest) (tStop t) := by
  refine ⟨fun pins s σ H D I h => ?_⟩
  refine wpAny_execs_cons (thn (h1.run pins s σ H { D with nx := fun _ _ => False } I h) fun f s1 q => ?_)
  cases f with
  | next =>
    obtain ⟨σ', H', I', q⟩ := q
    exact q.elim
  | ret v => exact q
  | brk => exact q
  | cont => exact q
end
section
variable {P : Program} {w : World} {K : PySem.W.Frag} {mg : Str → Option Value} {base : Heap}
theorem funN {x qual : Str} {st : Stmt} {f : Addr} {fd : FuncData} {N ps : List Str} {k : Nat} {sp : Sp} (F : Fun K x qual st f fd) (S : FnScope N ps (defScope st)) (len : ∀ vs H Q E, sp vs H Q E → vs.length = ps.length)
    (hbody : ∀ (cdv : Value) (A : Around) (outer : List Env) (s : Shared) (H : Hp) (vs : List V) (Q : VK) (E : XK), Room k (A.deeper (envOfC qual (defScope st) s.heap.objs.size f cdv)) → sp vs H Q E →
      ∃ t, PSs (cxOf (L2N.CX P w) P w K mg base N qual (defScope st) f cdv A outer s H E) (defBody st) t ∧ t { nx := fun _ H' => Q .non H', rt := Q } (L2.start N vs) H) : FnOk P w K mg base (L2N.CX P w) (k + 1) f fd ps sp := by
  obtain ⟨oc, od, kV, doc, pm, an, cdv, ct, osl, rfl, lk, hcd⟩ := F.ex
  exact fn_of lk hcd S len fun A outer s H vs Q E hr hsp => hbody cdv A outer s H vs Q E hr hsp
end
/-- it raises the class c -/
def pX (p : Pm) (E : XK) : Post Nat where
  P := fun c G0 H0 _ _ => ∀ G' H', Gr G0 G' H0 H' → E (.ref (p.cl c)) none H'
  mono := fun _ h => h
/-- it raises, or it goes on to the def's end -/
def pXU (p : Pm) (E : XK) : Post (Option Nat) where
  P := fun o G0 H0 _ D => match o with
    | some c => ∀ G' H', Gr G0 G' H0 H' → E (.ref (p.cl c)) none H'
    | none => ∀ σ' G' H', Gr G0 G' H0 H' → D.nx σ' H'
  mono := fun {o _ _ _ _ _} _ h => match o with
    | some _ => h
    | none => h
/-- the promise of a def that raises -/
def spX (p : Pm) {τ : Type} (ea : τ → List D) (f : τ → Option Nat) : Sp := fun vs H Q E => ∃ G a c, Same G H ∧ RpA p G (ea a) vs ∧ f a = some c ∧ ∀ G' H', Gr G G' H H' → E (.ref (p.cl c)) none H'
/-- .. that raises or ends -/
def spXU (p : Pm) {τ : Type} (ea : τ → List D) (f : τ → Option (Option Nat)) : Sp := fun vs H Q E => ∃ G a o, Same G H ∧ RpA p G (ea a) vs ∧ f a = some o ∧ match o with
  | some c => ∀ G' H', Gr G G' H H' → E (.ref (p.cl c)) none H'
  | none => ∀ G' H', Gr G G' H H' → Q .non H'
def intD : D → Option Int
  | .int i => some i
  | _ => none
section
variable {p : Pm} {env : List Sl} {te ta tb : TE} {tas : TA} {tt : TT} {t tz : TS} {α β γ τ : Type} [Enc α] [Enc β] [Enc γ] {E : XK}
theorem ev_intD {nw : Bool} {ma : Option D} (h : Ev p nw te env ma) : Ev p nw te env (ma.bind fun d => intD d) := fun y e => by
  obtain ⟨x, e1, e2⟩ := bind_some e
  cases x with
  | int i =>
    cases e2
    exact h _ e1
  | _ => cases e2
theorem kx_stop {m : Option Nat} (h : Bk p t env m (pX p E)) : Bk p (tStop t) env m (pX p E) := fun c e G0 H0 σ G H st D q => h c e G0 H0 σ G H st _ q
/-- if test: raise .., and what follows -/
theorem kx_if {mc : Option Bool} {ma mb : Option Nat} (h : EvT p tt env mc) (h1 : Bk p t env ma (pX p E)) (h2 : Bk p tz env mb (pX p E)) : Bk p (tSeq (tIfS tt t tNext) tz) env (mc.bind fun c => if c = true then ma else mb) (pX p E) := fun r e G0 H0 σ G H st D q => by
  obtain ⟨c, e1, e⟩ := bind_some e
  refine h c e1 G0 H0 σ G H st _ fun G1 H1 g1 => ?_
  cases c with
  | true => exact h1 r e G0 H0 σ G1 H1 (st.step g1) _ q
  | false => exact h2 r e G0 H0 σ G1 H1 (st.step g1) D q
theorem kx_ifL {mc : Option Bool} {ma : Option Nat} (h : EvT p tt env mc) (h1 : Bk p t env ma (pX p E)) : Bk p (tIfS tt t tNext) env (mc.bind fun c => if c = true then ma else none) (pX p E) := fun r e G0 H0 σ G H st D q => by
  obtain ⟨c, e1, e⟩ := bind_some e
  refine h c e1 G0 H0 σ G H st _ fun G1 H1 g1 => ?_
  cases c with
  | true => exact h1 r e G0 H0 σ G1 H1 (st.step g1) _ q
  | false => cases e
theorem kx_ifU {mc : Option Bool} {c0 : Nat} (h : EvT p tt env mc) (h1 : Bk p t env (some c0) (pX p E)) : Bk p (tIfS tt t tNext) env (mc.bind fun c => if c = true then some (some c0) else some none) (pXU p E) := fun r e G0 H0 σ G H st D q => by
  obtain ⟨c, e1, e⟩ := bind_some e
  refine h c e1 G0 H0 σ G H st _ fun G1 H1 g1 => ?_
  cases c with
  | true =>
    cases e
    exact h1 c0 rfl G0 H0 σ G1 H1 (st.step g1) _ q
  | false =>
    cases e
    exact q σ G1 H1 (st.gr.trans g1)
/-- raise C('..') -/
theorem kx_raise {c : Nat} : Bk p (fun _ σ H => (fun (_ : L2.St) (H : Hp) (Q : XK) => Q (.ref (p.cl c)) none H) σ H fun cls d H' => (fun cls d (_ : L2.St) H => E cls d H) cls d σ H') env (some c) (pX p E) := fun r e G0 H0 σ G H st D q => by
  cases e
  exact q G H st.gr
/-- what a class's method promises, an exception let out -/
structure MetX (P : Program) (w : World) (K : PySem.W.Frag) (mg : Str → Option Value) (base : Heap) (m : Str) (C : Addr) (k : Nat) (sp : Sp) : Prop where
  ex : ∃ f fd ps, Cls K C ∧ Meth K C m f ∧ FnOk P w K mg base (L2N.CX P w) k f fd ps sp ∧ Binds K fd ps []
theorem pe_metX {X : Cx} {k : Nat} {C : Addr} {sp : Sp} {m : Str} {apos pos : Pos} {o e : Expr} {es : List Expr} {W : WX} {pl : Sem Bool} (c : MetX X.prog X.w X.K X.mg X.base m C k sp) (hr : Room k X.A) (tk : L2N.Takes X W) (hW : ∀ cls d σ H, E cls d H → W cls d σ H) (he : PE X o ta) (ha : PA X (e :: es) tas)
    (h1 : starEach (e :: es) X.env = (false, eval e X.env) :: starEach es X.env := by rfl) (h2 : (backTo pos (starEach es X.env)).any (·.1) = false := by rfl)
    (h3 : eval (.Call (.Attribute o m apos) (e :: es) [] pos) X.env = (do
      let ov ← eval o X.env
      standAt apos.atName
      let (f, first) ← holding [ov] (getMethod ov m pl); callWith pos f first (backTo pos (starEach (e :: es) X.env)) (backToKw pos (keywordEach [] X.env))) := by rfl) :
    PE X (.Call (.Attribute o m apos) (e :: es) [] pos) (tMeth C m sp [] E ta tas) := by
  obtain ⟨f, fd, ps, hc, hm, F, hb⟩ := c.ex
  exact pe_meth (pl := pl) he hc hm F hr hb .nil (L2N.passes_call tk hW) ha h1 h2 h3
end
section
variable {p : Pm} {env : List Sl} {te ta tb : TE} {tas : TA} {t tz : TS} {α : Type} {E : XK} {m : Str}
/-- o.m(..) reaches the method's promise -/
theorem meth_at {S : Shf} {ds : List D} {sp : Sp} {Q : VK} {G0 H0 G H : Hp} {σ : L2.St} (hn : (m == "books") = false ∧ (m == "weights") = false ∧ (m == "nailed") = false ∧ (m == "paid") = false ∧ (m == "done") = false) (he : Ev p false ta env (some S)) (ha : EvA p tas env (some ds)) (st : Sts p G0 H0 env σ G H)
    (k : ∀ v vs G' H', Gr G G' H H' → RpA p G' (enc S :: ds) (v :: vs) → sp (v :: (vs ++ [])) H' Q E) : tMeth (p.cl 6) m sp [] E ta tas σ H Q := by
  refine he S rfl G0 H0 σ G H st _ fun v G1 H1 g1 r1 => ?_
  have r1' : Rp p G1 (enc S) v := r1
  obtain ⟨a, dx, xs, rfl, ga, rf⟩ := r1
  refine ⟨a, dx, xs, rfl, g1.s _ _ ga, lookup_no rf ?_, ?_⟩
  · obtain ⟨h1, h2, h3, h4, h5⟩ := hn
    simp [List.lookup_cons, h1, h2, h3, h4, h5]
  · exact ha ds rfl G0 H0 σ G1 H1 (st.step g1) _ fun vs G2 H2 g2 r2 => k _ vs G2 H2 (g1.trans g2) (.cons (Rp.mono g2.g _ r1') r2)
/-- o.m(..), and what follows if it doesn't raise -/
theorem kx_meth {S : Shf} {ds : List D} {ea : τ → List D} {f : τ → Option (Option Nat)} {a : τ} {mb : Option Nat} (hn : (m == "books") = false ∧ (m == "weights") = false ∧ (m == "nailed") = false ∧ (m == "paid") = false ∧ (m == "done") = false) (he : Ev p false ta env (some S)) (ha : EvA p tas env (some ds)) (hea : ea a = enc S :: ds) (h2 : Bk p tz env mb (pX p E)) :
    Bk p (tSeq (tDrop (tMeth (p.cl 6) m (spXU p ea f) [] E ta tas)) tz) env ((f a).bind fun o => match o with | some c => some c | none => mb) (pX p E) := fun r e G0 H0 σ G H st D q => by
  obtain ⟨o, e1, e⟩ := bind_some e
  refine meth_at hn he ha st fun v vs G1 H1 g1 r1 => ⟨G1, a, o, g1.s, by rw [List.append_nil, hea]; exact r1, e1, ?_⟩
  cases o with
  | some c =>
    cases e
    exact fun G2 H2 g2 => q G2 H2 ((st.gr.trans g1).trans g2)
  | none => exact fun G2 H2 g2 => h2 r e G0 H0 σ G2 H2 ((st.step g1).step g2) D q
/-- o.m(..), which raises -/
theorem kx_methL {S : Shf} {ds : List D} {ea : τ → List D} {f : τ → Option (Option Nat)} {a : τ} (hn : (m == "books") = false ∧ (m == "weights") = false ∧ (m == "nailed") = false ∧ (m == "paid") = false ∧ (m == "done") = false) (he : Ev p false ta env (some S)) (ha : EvA p tas env (some ds)) (hea : ea a = enc S :: ds) :
    Bk p (tDrop (tMeth (p.cl 6) m (spXU p ea f) [] E ta tas)) env ((f a).bind fun o => o) (pX p E) := fun r e G0 H0 σ G H st D q => by
  obtain ⟨o, e1, e⟩ := bind_some e
  cases e
  exact meth_at hn he ha st fun v vs G1 H1 g1 r1 => ⟨G1, a, some r, g1.s, by rw [List.append_nil, hea]; exact r1, e1, fun G2 H2 g2 => q G2 H2 ((st.gr.trans g1).trans g2)⟩
end
end PU

set_option Elab.async false
set_option maxRecDepth 100000
set_option linter.all false
set_option maxHeartbeats 4000000
/-! PU37: an exception looked at where it is handled; defs called there. -/
namespace PU
open PySem PySem.Spec PyProof.Rows L2 L2H
open Enc
/-! ### isinstance of the pinned exception -/
theorem call_isP {X : Cx} {a C : Addr} {oe : Obj} (c : ExcC X.K C) (hz : Zc (.ref C) none oe) (hf : ∃ vs, oe.data = .fields vs) (hp : (a, oe) ∈ X.pn) : CallR X (.builtin "isinstance") (rIsE X.K C a) := by
  intro pins s σ H xs us Q I r h
  obtain ⟨c', cv, b, rfl, hcv, e, q⟩ := h
  cases r with
  | cons rx rr =>
    cases rr with
    | cons rt rr =>
      cases rr
      cases rx
      have ec := hcv _ rt
      subst ec
      obtain ⟨hget, _⟩ := I.pin (a, oe) (List.mem_append.mpr (.inl hp))
      obtain ⟨vs, hv⟩ := hf
      have J : PySem.W.InstAt s.heap a oe C none := by
        obtain ⟨oc, od, oda, osl⟩ := oe
        obtain ⟨h1, h2⟩ := hz
        dsimp only at h1 h2 hv
        subst h1 h2 hv
        exact ⟨hget, rfl, rfl, trivial⟩
      exact PySem.W.kia_one (PySem.W.handS_kitx_exc c.hg c.hk c.hs c.hd c.ha c.hn c.ht c.hm) I.kIn J e (fun z => nomatch z) fun tk => ⟨.bl b, H, I.kept (t' := tk) fun _ _ z => z, rfl, q⟩
def rCntV (K : PySem.W.Frag) : V → List V → Hp → VK → Prop := fun x xs H Q => ∃ (a : Addr) (ys : List V) (y : V), x = .ref a ∧ xs = [y] ∧ SqL K H a ys ∧ flatV y = true ∧ ys.all flatV = true ∧ Q (.int (ys.countP (fun z => eqV z y) : Nat)) H
theorem countU {y : V} : ∀ {ys : List V} {us : List Value}, Vals ys us → ys.all flatV = true → us.countP (eqU y) = ys.countP (fun z => eqV z y)
  | _, _, .nil, _ => rfl
  | z :: ys, u :: us, .cons r t, f => by
    rw [List.all_cons, Bool.and_eq_true] at f
    rw [List.countP_cons, List.countP_cons, countU t f.2, eqU_of r f.1]
theorem mt_countV {X : Cx} : MtR X "list.count" (rCntV X.K) := by
  intro pins s σ H x xs v us Q I rx rxs h
  obtain ⟨p, ys, y, rfl, rfl, hs, fy, fys, q⟩ := h
  cases rx
  obtain ⟨u, rfl, ru⟩ := rxs.one
  obtain ⟨its, rv, ⟨⟨cls, dd, data, sl⟩, n, ho, hc, hdn, hd⟩, hlen⟩ := I.list hs
  simp only at hc hd
  subst hc hd
  refine call_meets PySem.F.slot_list_count ⟨_, ho, rfl⟩ PySem.F.entry_list_count (PySem.F.args_list_count_2 _ _)
    (SeqAt.list_countAt p its.toArray n dd sl u (eqU y)) ⟨ho, fun u' hu' => mem_eqAt ru fy rv fys u' (by simpa using hu'), ?_⟩
  have ec : its.toArray.toList.countP (eqU y) = ys.countP (fun z => eqV z y) := countU rv fys
  refine ⟨.int (ys.countP (fun z => eqV z y) : Nat), H, I.tok _, ⟨s.toks, ?_⟩, q⟩
  show Value.int ((its.toArray.toList.countP (eqU y) : Nat) : Int) s.toks = Value.int ((ys.countP (fun z => eqV z y) : Nat) : Int) s.toks
  rw [ec]
theorem flat_bls : ∀ xs : List Bool, (xs.map V.bl).all flatV = true := fun xs => by
  rw [List.all_eq_true]
  intro v hv
  obtain ⟨n, _, rfl⟩ := List.mem_map.mp hv
  rfl
section
variable {X : Cx} {te ta tb : TE} {e : Expr} {es : List Expr} {t : TA} {o : Expr} {to : TE}
theorem xe_count (K) {apos cpos : Pos} (ho : PE X o to) (ha : PA X (e :: es) t) (hbase : attributeBase o "count" X.env (eval o X.env) = eval o X.env := by rfl)
    (hfew : ((backTo cpos (starEach (e :: es) X.env)).all (fun x => !x.1) && (backToKw cpos (keywordEach [] X.env)).all (fun x => x.1.isSome) && decide ((e :: es).length + ([] : List Keyword).length + (if ([] : List Keyword).isEmpty then 0 else 1) < 30)) = true := by rfl)
    (hline : (apos.endLine == cpos.line) = true := by rfl) (hs : starEach (e :: es) X.env = (false, eval e X.env) :: starEach es X.env := by rfl) (hplain : (backTo cpos (starEach es X.env)).any (·.1) = false := by rfl) (hK : X.K = K := by rfl) :
    PE X (.Call (.Attribute o "count" apos) (e :: es) [] cpos) (tBM K "list" (rCntV K) to t) := by
  subst hK
  exact pe_bm PySem.F.plainAttrs_list PySem.F.slot_list_count PySem.F.type_list_count mt_countV ho ha hbase hfew hline hs hplain
end
def idxB? (xs : List Bool) (x : Bool) : Option Int := (xs.findIdx? (· == x)).map fun (n : Nat) => (n : Int)
section
variable {p : Pm} {env : List Sl} {te ta tb : TE}
theorem eqV_bl (a b : Bool) : eqV (.bl a) (.bl b) = (a == b) := by cases a <;> cases b <;> rfl
theorem ev_indexB {ma : Option (List Bool)} {mb : Option Bool} (ha : Ev p false ta env ma) (hb : Ev p false tb env mb) : Ev p false (tBM p.K "list" (rIndex p.K) ta (tCons tb tNil)) env (ma.bind fun xs => mb.bind fun x => idxB? xs x) := fun z e G0 H0 σ G H s Q k => by
  obtain ⟨xs, e1, e⟩ := bind_some e
  obtain ⟨x, e2, e⟩ := bind_some e
  refine ha xs e1 G0 H0 σ G H s _ fun v G1 H1 g1 r1 => ?_
  obtain ⟨a, vs, rfl, h1, h2⟩ := r1
  cases (RpA.bls h2 : vs = xs.map V.bl)
  refine ⟨.inl ⟨rfl, _, .of (g1.s _ _ h1)⟩, ?_⟩
  refine hb x e2 G0 H0 σ G1 H1 (s.step g1) _ fun w G2 H2 g2 r2 => ?_
  cases (show w = .bl x from r2)
  unfold idxB? at e
  cases f : xs.findIdx? (· == x) with
  | none => rw [f] at e; cases e
  | some j =>
    rw [f] at e
    cases e
    obtain ⟨hj, hx, hn⟩ := List.findIdx?_eq_some_iff_getElem.mp f
    refine ⟨a, xs.map V.bl, .bl x, j, .bl xs[j], rfl, rfl, .of (g2.s _ _ (g2.g _ _ h1)), rfl, flat_bls xs, ?_, ?_, fun m z hm hz => ?_, k _ G2 H2 (g1.trans g2) rfl⟩
    · rw [List.getElem?_map, List.getElem?_eq_getElem hj]; rfl
    · rw [eqV_bl]; exact hx
    · have hm' : m < xs.length := by omega
      rw [List.getElem?_map, List.getElem?_eq_getElem hm'] at hz
      cases hz
      have := hn m hm
      rw [eqV_bl]
      simpa using this
theorem ev_countB {ma : Option (List Bool)} {mb : Option Bool} (ha : Ev p false ta env ma) (hb : Ev p false tb env mb) : Ev p false (tBM p.K "list" (rCntV p.K) ta (tCons tb tNil)) env (ma.bind fun xs => mb.bind fun x => some ((xs.count x : Nat) : Int)) := fun z e G0 H0 σ G H s Q k => by
  obtain ⟨xs, e1, e⟩ := bind_some e
  obtain ⟨x, e2, e⟩ := bind_some e
  cases e
  refine ha xs e1 G0 H0 σ G H s _ fun v G1 H1 g1 r1 => ?_
  obtain ⟨a, vs, rfl, h1, h2⟩ := r1
  cases (RpA.bls h2 : vs = xs.map V.bl)
  refine ⟨.inl ⟨rfl, _, .of (g1.s _ _ h1)⟩, ?_⟩
  refine hb x e2 G0 H0 σ G1 H1 (s.step g1) _ fun w G2 H2 g2 r2 => ?_
  cases (show w = .bl x from r2)
  have ec : (xs.map V.bl).countP (fun z => eqV z (.bl x)) = xs.count x := by
    rw [List.countP_map]
    unfold List.count
    congr 1
  refine ⟨a, xs.map V.bl, .bl x, rfl, rfl, .of (g2.s _ _ (g2.g _ _ h1)), rfl, flat_bls xs, ?_⟩
  rw [ec]
  exact k _ G2 H2 (g1.trans g2) rfl
theorem ev_isE {i : Nat} {a C C' : Addr} {b : Bool} (h : env[i]? = some (.va (.adr a))) (hk : PySem.W.kitOne p.K (.ref C) (.ref C') = some b) : Ev p false (tCB (rIsE p.K C a) (tCons (tVar i) (tCons (tC (.ref C')) tNil))) env (some b) := fun z e G0 H0 σ G H s Q k => by
  cases e
  obtain ⟨v, h1, h2⟩ := s.va i _ h
  cases (show v = .ref a from h2)
  exact ⟨_, h1, .ref C', .ref C', b, rfl, fun u r => r, hk, k _ G H (.refl s.gr.s) rfl⟩
theorem ev_isET {i : Nat} {a C : Addr} {n : String} {b : Bool} (h : env[i]? = some (.va (.adr a))) (hk : PySem.W.kitOne p.K (.ref C) (.type n) = some b) : Ev p false (tCB (rIsE p.K C a) (tCons (tVar i) (tCons (tC (.ty n)) tNil))) env (some b) := fun z e G0 H0 σ G H s Q k => by
  cases e
  obtain ⟨v, h1, h2⟩ := s.va i _ h
  cases (show v = .ref a from h2)
  exact ⟨_, h1, .ty n, .type n, b, rfl, fun u r => r, hk, k _ G H (.refl s.gr.s) rfl⟩
end
/-! ### a def called where the exception at a is handled -/
theorem pe_hot {X : Cx} {a : Addr} {oe : Obj} {pn : List (Addr × Obj)} {k i : Nat} {g : Addr} {x er qual : Str} {params : Arguments} {body : List Stmt} {scope : Scope} {dV kV doc pm cdv ct oc : Value} {an od : Option Addr} {osl : Array (Option Value)} {N : List Str} {ar : Str} {SPW : Hp → VK → Prop} {p1 p2 pos : Pos}
    (hctx : PXN.CtxN oe) (hf : ∃ vs, oe.data = .fields vs) (lk : X.K.lookup g = some ⟨oc, od, .func (PySem.W.fnOf x qual params body scope dV kV doc pm an cdv ct), osl⟩) (hcd : PySem.W.codeIn X.K cdv qual = true) (S : FnScope N [ar] scope)
    (hb : Binds X.K (PySem.W.fnOf x qual params body scope dV kV doc pm an cdv ct) [ar] []) (hr : RoomH (k + 1) (X.A.mark (some (.ref a)))) (hg : Gl X x) (hm : X.mg x = some (.ref g)) (hk : PySem.W.keepIn X.K (.ref g) = true) (hN : X.N[i]? = some er) (hv : Vis X.env.scope er)
    (hbody : ∀ (A : Around) (outer : List Env) (s : Shared) (H : Hp) (Q : VK), RoomH k (A.deeper (envOfC qual scope s.heap.objs.size g cdv)) → SPW H Q →
      ∃ t, PSs (cxH CX0 X.prog X.w X.K X.mg X.base N qual scope g cdv A outer s H E0 (a, oe)) body t ∧ t { nx := fun _ H' => Q .non H', rt := Q } (L2.start N [.ref a]) H)
    (hdb : (x == ("__debug__" : Str)) = false := by decide) (hd : (er == ("__debug__" : Str)) = false := by decide) (hcdd : (er == ("__classdict__" : Str)) = false := by decide) :
    PE (X.suite a ((a, oe) :: pn)) (.Call (.Name x p1) [.Name er p2] [] pos) (fun σ H Q => σ[i]? = some (some (.ref a)) ∧ SPW H Q) := by
  refine ⟨fun pins s σ H Q I h => ?_⟩
  obtain ⟨hs, hq⟩ := h
  refine wpAny_Call_Name_kw (ld_glob (X := X.suite a ((a, oe) :: pn)) I hg hm ?_ hdb)
  have ha : PA (X.suite a ((a, oe) :: pn)) [.Name er p2] (tCons (tVar i) tNil) := pa_cons (pe_var hN hv hd hcdd) pa_nil
  refine PySem.W.callWith_K (h₀ := X.base) I.ok.mod.kin hk (thn (ha.run pos pins s σ H (fun vs H1 => vs = [.ref a] ∧ H1 = H) I ⟨_, hs, rfl, rfl⟩) fun us s1 ⟨vs, H1, I1, r, ev, eH⟩ => ⟨I1.kIn, ?_⟩)
  subst ev
  rw [eH] at I1
  have b := hb s1 us I1.kIn (by rw [List.append_nil]; exact r.length.symm)
  rw [List.append_nil] at b
  have P1 := I1.pin (a, oe) (List.mem_append_left _ List.mem_cons_self)
  have hpin : PinOk X.stack H s1 (a, oe) := ⟨P1.1, P1.2.1, fun hm => (List.mem_cons.mp (I1.stkSub a hm)).elim P1.2.2.1 P1.2.2.2.1, P1.2.2.2.2⟩
  obtain ⟨vs0, hd0⟩ := hf
  have hot : Hot1 (X.A.mark (some (.ref a))) (a, oe) := ⟨rfl, vs0, hd0, hctx vs0 hd0⟩
  have FH : FnH X.prog X.w X.K X.mg X.base CX0 (k + 1) g (PySem.W.fnOf x qual params body scope dV kV doc pm an cdv ct) [ar] (fun vs H Q E => False) := ⟨fun _ _ _ _ z => z.elim, fun _ _ _ _ _ _ _ _ _ _ _ _ _ _ _ _ z => z.elim⟩
  have rc : codeAny (model X.prog X.w) (X.A.mark (some (.ref a))) (.call (.ref g) ⟨us, []⟩) (CR CX0 X.stack X.prog X.w H s1 Q E0) s1 := by
    have KX := I1.kIn
    have e0 := I1.env0
    have lim : s1.heap.NoLimit := I1.nolimit
    have hkind : ∀ y ∈ ([ar] : List Str).zip us, scope.names.lookup y.1 = some .local ∨ (scope.names.lookup y.1 = some .cell ∧ ((cellsFrom (s1.heap.objs.size + 1) scope.names []).lookup y.1).isSome = true) := fun ⟨n, v⟩ hy => by
      rcases S.par n (List.of_mem_zip hy).1 with q | q
      · exact .inl q
      · exact .inr ⟨q, PySem.W.cellsFrom_some _ _ _ (.inl q)⟩
    refine codeAny_call_function hr.depth (KX _ _ lk) rfl S.co S.gen rfl (PySem.W.codeRec_of KX hcd) (b _ _ _ _ ?_)
    refine wpAny_newFunctionEnv_cells S.kind hkind fun env he s2 x2 => ?_
    subst he
    refine ⟨lim.keeps x2.toInCall.keep, codeAny_func ?_⟩
    obtain ⟨t, ht, hqq⟩ := hbody _ X.stack s1 H Q (hr.deeper _) hq
    have J : Inv (cxH CX0 X.prog X.w X.K X.mg X.base N qual scope g cdv (X.A.mark (some (.ref a))) X.stack s1 H E0 (a, oe)) [] (L2.start N [.ref a]) H s2 := inv_startH S hpin e0 rfl r x2
    refine wpAny_mono (ht.run [] s2 (L2.start N [.ref a]) H _ J hqq) (fun fl s' hs => ?_) fun e s' hs => hs
    have fin : ∀ {σ' : L2.St} {H' : Hp} {v : V} {u : Value}, Inv (cxH CX0 X.prog X.w X.K X.mg X.base N qual scope g cdv (X.A.mark (some (.ref a))) X.stack s1 H E0 (a, oe)) [] σ' H' s' → RelV v u → Q v H' → CE X.stack X.prog X.w H s1 Q u s' :=
      fun {σ' H' v u} J rv q => ⟨v, H', J.os, J.bare, J.base, J.hok, rv, q⟩
    cases fl with
    | ret u =>
      obtain ⟨v, σ', H', J, rv, q⟩ := hs
      exact fin J rv q
    | next =>
      obtain ⟨σ', H', J, q⟩ := hs
      exact fin (v := V.non) (u := Value.none) J rfl q
    | brk =>
      obtain ⟨_, _, _, q⟩ := hs
      exact False.elim q
    | cont =>
      obtain ⟨_, _, _, q⟩ := hs
      exact False.elim q
  refine wpAny_call (codeAny_mono rc fun r s' hq => ?_)
  cases r with
  | error e => exact (show False from hq).elim
  | ok fl =>
    cases fl with
    | ret u => exact I1.after hq
    | next => exact False.elim hq
    | brk => exact False.elim hq
    | cont => exact False.elim hq
end PU

set_option Elab.async false
set_option maxRecDepth 100000
set_option linter.all false
set_option maxHeartbeats 4000000
/-! PU38: a def that is handed a lambda. -/
namespace PU
open PySem PySem.Spec PyProof.Rows L2
open LamX (TabB TabS CodeO codeO_ne)
open NdefX (NF NScope CellsAt startF envF ncx Caps cells_of slotAt)
open Enc
/-- the promise of a def that is handed a lambda first -/
structure AskOk (P : Program) (w : World) (K : PySem.W.Frag) (mg : Str → Option Value) (base : Heap) (k kl : Nat) (g : Addr) (lps fr : List Str) (SPX : (List (Option V) → Sp) → List (Option V) → List V → Hp → VK → Prop) : Prop where
  run : ∀ (A : Around) (outer : List Env) (s : Shared) (H : Hp) (us : List Value) (vs : List V) (Q : VK) (ws : List (Option V)) (f : Addr) (F : LF) (lsp : List (Option V) → Sp), Room k A → Env0 P w K mg base A outer s H → LamAt f F H → CellsAt F.cl fr ws s.heap H →
    LOk P w K mg base (L2N.CX P w) kl f F lps fr lsp → Vals vs us → SPX lsp ws vs H Q → codeAny (model P w) A (.call (.ref g) ⟨.ref f :: us, []⟩) (CR CX0 outer P w H s Q E0) s
theorem askOk_of {P : Program} {w : World} {K : PySem.W.Frag} {mg : Str → Option Value} {base : Heap} {k kl : Nat} {g : Addr} {fd : FuncData} {x : Str} {st : Stmt} {N ps : List Str} {a : Str} {lps fr : List Str} {SPX : (List (Option V) → Sp) → List (Option V) → List V → Hp → VK → Prop} (F : Fun K x x st g fd) (S : FnScope N (a :: ps) (defScope st))
    (hb : Binds K fd (a :: ps) []) (len : ∀ lsp ws vs H Q, SPX lsp ws vs H Q → vs.length = ps.length)
    (hbody : ∀ (cdv : Value) (A : Around) (outer : List Env) (s : Shared) (H : Hp) (vs : List V) (Q : VK) (ws : List (Option V)) (f : Addr) (F : LF) (lsp : List (Option V) → Sp), Room k (A.deeper (envOfC x (defScope st) s.heap.objs.size g cdv)) → LamAt f F H → CellsAt F.cl fr ws s.heap H → LOk P w K mg base (L2N.CX P w) kl f F lps fr lsp → SPX lsp ws vs H Q →
      ∃ t, PSs (cxOf CX0 P w K mg base N x (defScope st) g cdv A outer s H E0).nox (defBody st) t ∧ t { nx := fun _ H' => Q .non H', rt := Q } (L2.start N (.ref f :: vs)) H) : AskOk P w K mg base (k + 1) kl g lps fr SPX := by
  obtain ⟨oc, od, kV, doc, pm, an, cdv, ct, osl, rfl, lk, hcd⟩ := F.ex
  refine ⟨fun A outer s H us vs Q ws f F lsp hr e0 hl C L r hsp => ?_⟩
  have hlen := len _ _ _ _ _ hsp
  have KX : K.In s.heap := e0.mod.kin.keeps fun b o e => (e0.bs b o e).1
  have hus : us.length = ps.length := by rw [← r.length]; exact hlen
  have b := hb s (.ref f :: us) KX (by rw [List.append_nil, List.length_cons, List.length_cons, hus])
  rw [List.append_nil] at b
  refine LamX.run_ofS (vs := .ref f :: vs) (us := .ref f :: us) lk hcd S hr e0 b (.cons rfl r) (by rw [List.length_cons, List.length_cons, hlen]) fun hr' => ?_
  obtain ⟨t, h1, h2⟩ := hbody cdv A outer s H vs Q ws f F lsp hr' hl C L hsp
  exact ⟨t, h1.nox, h2⟩
/-- x(lambda ..: body, e, ..) -/
def tAsk (P : Addr) (q : Str) (mk : Addr → LF) (js : List Nat) (SPX : (List (Option V) → Sp) → List (Option V) → List V → Hp → VK → Prop) (lsp : List (Option V) → Sp) (t : TA) : TE := fun σ H Q => TabS H P q ∧
  ∀ (f c' : Addr) (ps ps' : Array Value) (H1 : Hp), H P = some (.tbl ps) → H1 P = some (.tbl ps') → TriplesOk ps'.toList → (∀ (p' : Pos) cv, codeAmong p' ps'.toList = some cv → ∃ c, cv = .ref c ∧ H1 c = some (CodeO c q)) →
    (∀ b, b ≠ P → b ≠ f → b ≠ c' → H1 b = H b) → H f = none → f ≠ c' → f ≠ P → c' ≠ P → (H c' = none ∨ ∃ p', codeAmong p' ps.toList = some (.ref c')) → (∀ (p' : Pos) cv, codeAmong p' ps'.toList = some cv → codeAmong p' ps.toList = some cv ∨ cv = .ref c') → (mk c').c = c' → (mk c').qual = q → LamAt f (mk c') H1 →
    t σ H1 fun vs H2 => LamAt f (mk c') H2 ∧ SPX lsp (js.map (slotAt σ)) vs H2 Q
section
variable {X : Cx}
theorem pe_ask {k kl : Nat} {x : Str} {g c P : Addr} {lps fr : List Str} {js : List Nat} {SPX : (List (Option V) → Sp) → List (Option V) → List V → Hp → VK → Prop} {lsp : List (Option V) → Sp} {params : Arguments} {body : Expr} {scope : Scope} {lpos p1 pos : Pos} {es : List Expr} {t : TA}
    (A : AskOk X.prog X.w X.K X.mg X.base k kl g lps fr SPX) (hr : Room k X.A) (hg : Gl X x) (hm : X.mg x = some (.ref g)) (hk : PySem.W.keepIn X.K (.ref g) = true)
    (TB : TabB X.base X.mg c P) (hcode : X.env.code = .ref c) (hdef : defaultsOf params X.env = ([], [])) (hfree : ∀ y ∈ scope.names, y.2 = .free → X.env.scope.names.lookup y.1 = some .cell ∨ X.env.scope.names.lookup y.1 = some .free)
    (cp : X.Ok → Caps X (cloFrom X.env.cells scope.names []) fr js)
    (L : ∀ f c', LOk X.prog X.w X.K X.mg X.base (L2N.CX X.prog X.w) kl f ⟨X.env.qual ++ "<lambda>", params, body, scope, cloFrom X.env.cells scope.names [], c'⟩ lps fr lsp) (ha : PA X es t)
    (hdb : (x == ("__debug__" : Str)) = false := by decide) (he : starEach (.Lambda params body scope lpos :: es) X.env = (false, eval (.Lambda params body scope lpos) X.env) :: starEach es X.env := by rfl) (hpl : (backTo pos (starEach es X.env)).any (·.1) = false := by rfl) :
    PE X (.Call (.Name x p1) (.Lambda params body scope lpos :: es) [] pos) (tAsk P (X.env.qual ++ "<lambda>") (fun c' => ⟨X.env.qual ++ "<lambda>", params, body, scope, cloFrom X.env.cells scope.names [], c'⟩) js SPX lsp t) := by
  refine ⟨fun pins s σ H Q I h => ?_⟩
  obtain ⟨hT, h⟩ := h
  refine wpAny_Call_Name_kw (ld_glob I hg hm ?_ hdb)
  refine PySem.W.callWith_K (h₀ := X.base) I.ok.mod.kin hk ?_ he hpl
  rw [he]
  show wpAny _ _ (spliced ((false, eval (.Lambda params body scope lpos) X.env) :: backTo pos (starEach es X.env))) _ _ s
  have hfr : ∀ y ∈ scope.names, y.2 = .free → ∃ c, X.env.cells.lookup y.1 = some c := fun y hy e => by
    rcases hfree y hy e with z | z
    · exact I.ok.has _ (.inl z)
    · exact I.ok.has _ (.inr z)
  refine Calls.spliced_cons (lam_mk I TB hcode hT hdef hfr fun f c' ps ps' H1 s' I1 hP hP' ht hc hoth nf n1 n2 n3 hc' hcs hl hco => ?_)
  refine thn (ha.run pos pins s' σ H1 _ I1 (h f c' ps ps' H1 hP hP' ht hc hoth nf n1 n2 n3 hc' hcs rfl rfl ⟨hl, hco⟩)) fun us s2 hh => ?_
  obtain ⟨vs, H2, I2, r, hl2, q⟩ := hh
  refine ⟨I2.kIn, ?_⟩
  have rc := A.run X.A X.stack s2 H2 us vs Q _ f _ lsp hr I2.env0 hl2 (cells_of I2 (cp I2.ok)) (L f c') r q
  refine wpAny_call (codeAny_mono rc fun r s3 hq => ?_)
  cases r with
  | error e => exact (show False from hq).elim
  | ok fl =>
    cases fl with
    | ret u => exact I2.after hq
    | next => exact False.elim hq
    | brk => exact False.elim hq
    | cont => exact False.elim hq
end
/-! ### the table as a thing of one's own -/
def tabR (P : Addr) (q : Str) (d : D) : Rs where
  R := fun p G v F => Rp p G d v ∧ ∃ ps, F = sing P (.tbl ps) ∧ TriplesOk ps.toList ∧ ∀ (p' : Pos) cv, codeAmong p' ps.toList = some cv → ∃ c, cv = .ref c ∧ G c = some (CodeO c q)
  mono := fun e ⟨h1, ps, h2, h3, h4⟩ => ⟨Rp.mono e _ h1, ps, h2, h3, fun p' cv h => by
    obtain ⟨c, a, b⟩ := h4 p' cv h
    exact ⟨c, a, e _ _ b⟩⟩
section
variable {p : Pm} {env : List Sl} {t : TA} {P : Addr} {q : Str} {d : D} {ts : Nat}
theorem ev_tabR (h : env[ts]? = some (.rs (tabR P q d))) : ∀ {G0 H0 G H : Hp} {σ : L2.St}, Sts p G0 H0 env σ G H → TabS H P q ∧ ∀ (f c' : Addr) (ps ps' : Array Value) (H1 : Hp) (F : HO), H P = some (.tbl ps) → H1 P = some (.tbl ps') → TriplesOk ps'.toList →
    (∀ b, b ≠ P → b ≠ f → b ≠ c' → H1 b = H b) → H f = none → f ≠ c' → f ≠ P → c' ≠ P → (H c' = none ∨ ∃ p', codeAmong p' ps.toList = some (.ref c')) → (∀ (p' : Pos) cv, codeAmong p' ps'.toList = some cv → codeAmong p' ps.toList = some cv ∨ cv = .ref c') → H1 f = some F → H1 c' = some (CodeO c' q) →
    ∃ G1, Same G G1 ∧ Sts p G0 H0 env σ G1 H1 ∧ G1 f = some F ∧ G1 c' = some (CodeO c' q) := fun {G0 H0 G H σ} S => by
  obtain ⟨Fs, f⟩ := S.rs
  obtain ⟨v, a1, ⟨r1, ps, eF, h3, h4⟩, a3, a4⟩ := f.wh ts _ h
  have hP : H P = some (.tbl ps) := a3 _ _ (by rw [eF]; exact upd_same)
  have nP := a4 P (.tbl ps) (by rw [eF]; exact upd_same)
  refine ⟨⟨ps, hP, h3, fun p' cv hc => ?_⟩, fun fa c' ps1 ps' H1 F e1 e2 e3 e4 e5 n1 n2 n3 e6 e7 e8 e9 => ?_⟩
  · obtain ⟨c, x, y⟩ := h4 p' cv hc
    exact ⟨c, x, S.gr.s _ _ y⟩
  · rw [hP] at e1; cases e1
    have Gf : G fa = none := S.gr.s.free e5
    have Gc : G c' = none ∨ G c' = some (CodeO c' q) := by
      rcases e6 with z | ⟨p', z⟩
      · exact .inl (S.gr.s.free z)
      · obtain ⟨c, x, y⟩ := h4 p' _ z
        cases x
        exact .inr y
    have H0c : G c' = none → H c' = none := fun z => by
      rcases e6 with z' | ⟨p', z'⟩
      · exact z'
      · obtain ⟨c, x, y⟩ := h4 p' _ z'
        cases x
        rw [z] at y; cases y
    let G1 : Hp := upd (upd G c' (CodeO c' q)) fa F
    have g1 : ∀ b, b ≠ fa → b ≠ c' → G1 b = G b := fun b x y => by
      show upd _ _ _ b = _
      rw [upd_ne x, upd_ne y]
    have gf : G1 fa = some F := upd_same
    have gc : G1 c' = some (CodeO c' q) := by
      show upd _ _ _ c' = _
      rw [upd_ne (Ne.symm n1), upd_same]
    have sg : Same G G1 := fun b o e => by
      have x : b ≠ fa := fun z => by rw [z, Gf] at e; cases e
      by_cases y : b = c'
      · rcases Gc with z | z
        · rw [y, z] at e; cases e
        · rw [y] at e ⊢
          rw [z] at e
          rw [gc]; exact e
      · rw [g1 b x y]; exact e
    have GPn : G1 P = none := by rw [g1 P (Ne.symm n2) (Ne.symm n3)]; exact nP.1
    have s1 : Same G1 H1 := fun b o e => by
      by_cases x : b = fa
      · rw [x, gf] at e; rw [x, e8]; exact e
      · by_cases y : b = c'
        · rw [y, gc] at e; rw [y, e9]; exact e
        · have w : b ≠ P := fun z => by rw [z, GPn] at e; cases e
          rw [g1 b x y] at e
          rw [e4 b w x y]
          exact S.gr.s _ _ e
    have keep : ∀ b o, H b = some o → b ≠ P → H1 b = some o := fun b o e w => by
      have x : b ≠ fa := fun z => by rw [z, e5] at e; cases e
      by_cases y : b = c'
      · have Gcc : G c' = some (CodeO c' q) := by
          rcases Gc with z | z
          · rw [y, H0c z] at e; cases e
          · exact z
        rw [y] at e ⊢
        rw [S.gr.s _ _ Gcc] at e
        rw [e9]; exact e
      · rw [e4 b w x y]; exact e
    refine ⟨G1, sg, ⟨⟨S.gr.g.trans sg, s1, fun b o e => ?_, fun b o e k => ?_⟩, S.len, fun i dd e => (S.va i dd e).imp fun v h => ⟨h.1, Rp.mono sg _ h.2⟩, fun j => if ts = j then sing P (.tbl ps') else Fs j, fun j r e => ?_, fun j k r r' b o n ej ek eb => ?_⟩, gf, gc⟩
    · refine keep b o (S.gr.h _ _ e) fun z => ?_
      rw [z, nP.2] at e; cases e
    · by_cases x : b = fa
      · rw [x]
        exact S.gr.h.free e5
      · by_cases y : b = c'
        · rw [y]
          rcases Gc with z | z
          · exact S.gr.h.free (H0c z)
          · rw [y] at k
            exact S.gr.n c' _ z k
        · rw [g1 b x y] at e
          exact S.gr.n b o e k
    · by_cases hj : ts = j
      · subst hj
        rw [h] at e
        cases e
        simp only [if_true]
        refine ⟨v, a1, ⟨Rp.mono sg _ r1, ps', rfl, e3, fun p' cv hc => ?_⟩, fun b o eb => ?_, fun b o eb => ?_⟩
        · rcases e7 p' cv hc with z | z
          · obtain ⟨c, x, y⟩ := h4 p' cv z
            exact ⟨c, x, sg _ _ y⟩
          · exact ⟨c', z, gc⟩
        · obtain ⟨rfl, rfl⟩ := sing_iff.mp eb
          exact e2
        · obtain ⟨rfl, rfl⟩ := sing_iff.mp eb
          exact ⟨GPn, nP.2⟩
      · simp only [if_neg hj]
        obtain ⟨u, b1, b2, b3, b4⟩ := f.wh j r e
        have offP : ∀ b o, Fs j b = some o → b ≠ P := fun b o eb z => by
          have := f.ap j ts r _ b o (Ne.symm hj) e h eb
          rw [eF, z, show sing P (HO.tbl ps) P = some (.tbl ps) from upd_same] at this; cases this
        refine ⟨u, b1, r.mono sg b2, fun b o eb => keep b o (b3 b o eb) (offP b o eb), fun b o eb => ⟨?_, (b4 b o eb).2⟩⟩
        have x : b ≠ fa := fun z => by
          have := b3 b o eb
          rw [z, e5] at this; cases this
        have y : b ≠ c' := fun z => by
          have k1 := b3 b o eb
          have k2 := (b4 b o eb).1
          rw [z] at k1 k2
          rw [H0c k2] at k1; cases k1
        rw [g1 b x y]
        exact (b4 b o eb).1
    · by_cases hj : ts = j
      · subst hj
        simp only [if_true] at eb
        obtain ⟨rfl, rfl⟩ := sing_iff.mp eb
        simp only [if_neg n]
        cases w : Fs k b with
        | none => rfl
        | some u =>
          have := f.ap k ts r' _ b u (Ne.symm n) ek h w
          rw [eF, show sing b (HO.tbl ps) b = some (.tbl ps) from upd_same] at this; cases this
      · simp only [if_neg hj] at eb
        by_cases hk : ts = k
        · subst hk
          simp only [if_true]
          cases w : sing P (HO.tbl ps') b with
          | none => rfl
          | some u =>
            obtain ⟨rfl, rfl⟩ := sing_iff.mp w
            have := f.ap j ts r _ b o n ej h eb
            rw [eF, show sing b (HO.tbl ps) b = some (.tbl ps) from upd_same] at this; cases this
        · simp only [if_neg hk]
          exact f.ap j k r r' b o n ej ek eb
/-- a def asked, with a lambda: nothing is changed but the table -/
theorem ee_ask {mk : Addr → LF} {js : List Nat} {SPX : (List (Option V) → Sp) → List (Option V) → List V → Hp → VK → Prop} {lsp : List (Option V) → Sp} {ma : Option (List D)} {f : List D → Option Bool} (h : env[ts]? = some (.rs (tabR P q d))) (ha : EvA p t env ma)
    (hs : ∀ a z, ma = some a → f a = some z → ∀ G0 H0 σ G H vs Q, Sts p G0 H0 env σ G H → RpA p G a vs → (∀ H', Same H H' → Q (.bl z) H') → SPX lsp (js.map (slotAt σ)) vs H Q) :
    EvE p (tAsk P q mk js SPX lsp t) env (fun _ : Unit => env) (ma.bind fun a => (f a).bind fun z => some (z, ())) := fun z e G0 H0 σ G H S Q k => by
  obtain ⟨a, e1, e⟩ := bind_some e
  obtain ⟨b, e2, e⟩ := bind_some e
  cases e
  obtain ⟨T, hT⟩ := ev_tabR h S
  refine ⟨T, fun fa c' ps ps' H1 x1 x2 x3 x4 x5 x6 n1 n2 n3 x7 x8 mc mq hl => ?_⟩
  obtain ⟨G1, sg, S1, gf, gc⟩ := hT fa c' ps ps' H1 _ x1 x2 x3 x5 x6 n1 n2 n3 x7 x8 hl.1 (by have := hl.2; rw [mc, mq] at this; exact this)
  refine ha a e1 G0 H0 σ G1 H1 S1 _ fun vs G2 H2 g2 r2 => ?_
  have S2 := S1.step g2
  have hl2 : LamAt fa (mk c') H2 := ⟨g2.h _ _ hl.1, g2.h _ _ hl.2⟩
  refine ⟨hl2, hs a b e1 e2 G0 H0 σ G2 H2 vs Q S2 r2 fun H' sm => ?_⟩
  have g3 : Gr G2 G2 H2 H' := ⟨.refl _, S2.gr.s.trans sm, sm, fun a o e k => by rw [k] at e; cases e⟩
  exact k _ G2 H' (S2.step g3) (sg.trans g2.g) rfl
end
end PU

set_option Elab.async false
set_option maxRecDepth 100000
set_option linter.all false
set_option maxHeartbeats 4000000
/-! PU39: refusals: which class, asked of each thing. -/
namespace PU
open PySem PySem.Spec PyProof.Rows L2
open NdefX (slotAt)
open Enc
abbrev veBm : List Value := [.type "ValueError", .type "Exception", .type "BaseException", .type "object"]
/-- an error class by its name -/
structure ErrF (p : Pm) (mg : Str → Option Value) (i : Nat) (x : Str) : Prop where
  at_ : mg x = some (.ref (p.cl i))
/-- .. one that is raised -/
structure ErrR (p : Pm) (mg : Str → Option Value) (i : Nat) (x : Str) : Prop where
  at_ : mg x = some (.ref (p.cl i))
  ex : ExcC p.K (p.cl i)
  q : PySem.W.excIn p.K (p.cl i) veBm "ValueError.__new__" = true
  kp : PySem.W.keepIn p.K (.ref (p.cl i)) = true
  ty : PySem.W.typeIn p.K (.ref (p.cl i)) = some (.type "type")
  ca : PySem.W.exmOne p.K (.ref (p.cl i)) (.ref (p.cl 16)) = some true
  kt : ∀ j, 10 ≤ j → j ≤ 15 → PySem.W.kitOne p.K (.ref (p.cl i)) (.ref (p.cl j)) = some (decide (i = j))
  kv : PySem.W.kitOne p.K (.ref (p.cl i)) (.type "ValueError") = some true
/-- of which class, by its count -/
def whichM (i : Nat) : Option Int := (some [decide (i = 10), decide (i = 11), decide (i = 12)]).bind fun f1 => ((some f1).bind fun x => (some [decide (i = 13), decide (i = 14), decide (i = 15)]).bind fun y => cat? x y).bind fun f2 =>
  (((((some f2).bind fun xs => (some true).bind fun x => some ((xs.count x : Nat) : Int)).bind fun i => (some (1 : Int)).bind fun j => some (decide (i = j))).bind fun a => if a = true then some true else some false).bind fun c => if c = true then ((some f2).bind fun xs => (some true).bind fun x => idxB? xs x) else some 99)
theorem whichM_ok : ∀ i, 10 ≤ i → i ≤ 15 → whichM i = some ((i : Int) - 10) := by
  intro i h1 h2
  have : i = 10 ∨ i = 11 ∨ i = 12 ∨ i = 13 ∨ i = 14 ∨ i = 15 := by omega
  rcases this with rfl | rfl | rfl | rfl | rfl | rfl <;> decide
/-- whether each thing is refused by the class that is due -/
def refM (cs : List Nat) (r : D → Option Nat) (ds : List D) (due : Int) : Option Bool :=
  (forB (β := Bool) (fun (_ : Unit) (d : D) => (r d).bind fun c => if c ∈ cs then (if (!decide ((c : Int) - 10 = due)) = true then some (Rr.rt false) else some (Rr.nx ())) else none) () ds).bind (Rr.goR fun _ => some true)
/-- the promise of _law_refused -/
def SPXref (p : Pm) (cs : List Nat) : (List (Option V) → Sp) → List (Option V) → List V → Hp → VK → Prop := fun lsp ws vs H Q => ∃ (G : Hp) (v : V) (ds : List D) (due : Int) (r : D → Option Nat) (res : Bool), vs = [v, .int due] ∧ Same G H ∧ Rp p G (.lst ds) v ∧ refM cs r ds due = some res ∧
  (∀ d c, r d = some c → ∀ G1 H1 u Q1 E1, Same G G1 → Same G1 H1 → Rp p G1 d u → (∀ G' H', Gr G1 G' H1 H' → E1 (.ref (p.cl c)) none H') → lsp ws [u] H1 Q1 E1) ∧ ∀ H', Same H H' → Q (.bl res) H'
/-- a def that is handed a lambda, by its name -/
structure AskC (P : Program) (w : World) (K : PySem.W.Frag) (mg : Str → Option Value) (base : Heap) (x : Str) (k kl : Nat) (SPX : (List (Option V) → Sp) → List (Option V) → List V → Hp → VK → Prop) : Prop where
  ex : ∃ g, (∀ lps fr, lps.length = 1 → AskOk P w K mg base k kl g lps fr SPX) ∧ mg x = some (.ref g) ∧ PySem.W.keepIn K (.ref g) = true
/-- the lambda's promise, it asks a method of the shelf that it captured: r: what it raises -/
def lspS (p : Pm) (r : Shf → D → Option Nat) : List (Option V) → Sp := fun ws vs H Q E => ∃ G S d c sv u, Same G H ∧ ws = [some sv] ∧ vs = [u] ∧ Rp p G (enc (S : Shf)) sv ∧ Rp p G d u ∧ r S d = some c ∧ ∀ G' H', Gr G G' H H' → E (.ref (p.cl c)) none H'
section
variable {p : Pm} {env : List Sl} {tb : TE} {P : Addr} {q : Str} {d : D} {ts js : Nat}
/-- _law_refused(lambda .., things, due), of a shelf of one's own -/
theorem ee_refused {mk : Addr → LF} {cs : List Nat} {r : Shf → D → Option Nat} {S : Shf} {mb : Option (List D)} {due : Int} (h : env[ts]? = some (.rs (tabR P q d))) (hs : env[js]? = some (.rs (dn (enc S)))) (hb : Ev p false tb env mb) :
    EvE p (tAsk P q mk [js] (SPXref p cs) (lspS p r) (tCons tb (tCons (tC (.int due)) tNil))) env (fun _ : Unit => env) (mb.bind fun ds => (refM cs (r S) ds due).bind fun z => some (z, ())) := by
  have ha : EvA p (tCons tb (tCons (tC (.int due)) tNil)) env (mb.bind fun ds => some [enc ds, D.int due]) := fun x e G0 H0 σ G H st Q k => by
    obtain ⟨ds, e1, e⟩ := bind_some e
    cases e
    exact hb ds e1 G0 H0 σ G H st _ fun v G1 H1 g1 r1 => k [v, .int due] G1 H1 g1 (.cons r1 (.cons rfl .nil))
  have key := ee_ask (mk := mk) (js := [js]) (SPX := SPXref p cs) (lsp := lspS p r) (f := fun a => match a with | [.lst ds, .int i] => refM cs (r S) ds i | _ => none) h ha ?_
  · intro z e
    obtain ⟨ds, e1, e⟩ := bind_some e
    obtain ⟨b, e2, e⟩ := bind_some e
    cases e
    refine key (b, ()) ?_
    rw [e1]
    show Option.bind (refM cs (r S) (ds.map id) due) _ = _
    rw [List.map_id, e2]; rfl
  · intro a z e1 e2 G0 H0 σ G H vs Q st ra k
    obtain ⟨ds, e3, e1⟩ := bind_some e1
    cases e1
    have e2 : refM cs (r S) (ds.map id) due = some z := e2
    rw [List.map_id] at e2
    obtain ⟨v, vs', rfl, rv, u, vs'', rfl, ru, rfl⟩ := ra
    cases (show u = .int due from ru)
    obtain ⟨Fs, f⟩ := st.rs
    obtain ⟨sv, a1, a2, a3, a4⟩ := f.wh js _ hs
    have dj : Dj (Fs js) G := fun b o e => (a4 b o e).1
    have rS : Rp p (un (Fs js) G) (enc S) sv := Dn.rp _ dj a2
    have sG : Same (un (Fs js) G) H := un_same a3 st.gr.s
    have rv' : Rp p (un (Fs js) G) (.lst ds) v := by
      have : Rp p G (.lst (ds.map id)) v := rv
      rw [List.map_id] at this
      exact Rp.mono (same_un2 dj) _ this
    refine ⟨un (Fs js) G, v, ds, due, r S, z, rfl, sG, rv', e2, fun d c hc G1 H1 u Q1 E1 s1 s2 r1 k1 => ?_, k⟩
    exact ⟨G1, S, d, c, sv, u, s2, by show [slotAt σ js] = _; rw [NdefX.slotAt_of a1], rfl, Rp.mono s1 _ rS, r1, hc, k1⟩
end
end PU

set_option Elab.async false
set_option maxRecDepth 100000
set_option linter.all false
set_option maxHeartbeats 4000000
/-! PU40: a law with tables; lambdas that ask a shelf; tests with several changes. -/
namespace PU
open PySem PySem.Spec PyProof.Rows L2
open LamX (TabB TabS CodeO codeO_ne)
open NdefX (NF NScope CellsAt startF envF ncx Caps cells_of slotAt)
open Enc
section
variable {p : Pm} {env : List Sl} {te ta tb tu' : TE} {tr tas : TA} {tt tu : TT} {α β γ st : Type} [Enc α] [Enc β] [Enc γ] {e1 : st → List Sl} {m : Option (Bool × st)}
theorem te_orE2 {m2 : st → Option (Bool × st)} (h1 : EtE p tt env e1 m) (h2 : ∀ s, EtE p tu (e1 s) e1 (m2 s)) : EtE p (tOr tt tu) env e1 (thn2 m fun b s => if b = true then some (true, s) else m2 s) := fun z e G0 H0 σ G H S Q k => by
  obtain ⟨a, ea, e⟩ := bind_some (show m.bind (fun z => if z.1 = true then some (true, z.2) else m2 z.2) = some z from e)
  refine h1 a ea G0 H0 σ G H S _ fun G1 H1 S1 g1 => ?_
  cases c : a.1 with
  | true =>
    rw [c, if_pos rfl] at e
    cases e
    exact k G1 H1 S1 g1
  | false =>
    rw [c] at e
    exact h2 a.2 z e G0 H0 σ G1 H1 S1 _ fun G2 H2 S2 g2 => k G2 H2 S2 (g1.trans g2)
theorem rv_neD [DecidableEq α] [EqOk α] (hd : EqOk.dep α ≤ 64) (x y : α) : RvOp p false (rNeD p.K) (enc x) (enc y) (some (!decide (x = y))) := by
  intro z e G H v w s rv rw' Q k
  cases e
  refine ⟨_, _, EqOk.dp x v (Rp.mono s _ rv), EqOk.dp y w (Rp.mono s _ rw'), shaped_of hd x, shaped_of hd y, ?_⟩
  rw [EqOk.eqv]
  exact k _ G H (.refl s) rfl
theorem rv_eqD [DecidableEq α] [EqOk α] (hd : EqOk.dep α ≤ 64) (x y : α) : RvOp p false (rEqD p.K) (enc x) (enc y) (some (decide (x = y))) := by
  intro z e G H v w s rv rw' Q k
  cases e
  refine ⟨_, _, EqOk.dp x v (Rp.mono s _ rv), EqOk.dp y w (Rp.mono s _ rw'), shaped_of hd x, shaped_of hd y, ?_⟩
  rw [EqOk.eqv]
  exact k _ G H (.refl s) rfl
theorem ee_neD2 [DecidableEq α] [EqOk α] {m : Option (α × st)} {mb : st → Option α} (ha : EvE p ta env e1 m) (hb : ∀ s, Ev p false tb (e1 s) (mb s)) (hd : EqOk.dep α ≤ 64 := by decide) : EvE p (tOp (rNeD p.K) ta tb) env e1 (thn2 m fun x s => (mb s).bind fun y => some (!decide (x = y), s)) :=
  fun z e => ee_opL (f := fun x y => some (!decide (x = y))) ha hb (rv_neD hd) z (by
    obtain ⟨w, ew, e⟩ := bind_some (show m.bind (fun z => (mb z.2).bind fun y => some (!decide (z.1 = y), z.2)) = some z from e)
    obtain ⟨y, ey, e⟩ := bind_some e
    cases e
    rw [ew]
    show ((mb w.2).bind fun y => (some (!decide (w.1 = y))).bind fun q => some (q, w.2)) = _
    rw [ey]; rfl)
theorem ee_eqD2 [DecidableEq α] [EqOk α] {m : Option (α × st)} {mb : st → Option α} (ha : EvE p ta env e1 m) (hb : ∀ s, Ev p false tb (e1 s) (mb s)) (hd : EqOk.dep α ≤ 64 := by decide) : EvE p (tOp (rEqD p.K) ta tb) env e1 (thn2 m fun x s => (mb s).bind fun y => some (decide (x = y), s)) :=
  fun z e => ee_opL (f := fun x y => some (decide (x = y))) ha hb (rv_eqD hd) z (by
    obtain ⟨w, ew, e⟩ := bind_some (show m.bind (fun z => (mb z.2).bind fun y => some (decide (z.1 = y), z.2)) = some z from e)
    obtain ⟨y, ey, e⟩ := bind_some e
    cases e
    rw [ew]
    show ((mb w.2).bind fun y => (some (decide (w.1 = y))).bind fun q => some (q, w.2)) = _
    rw [ey]; rfl)
/-- {} -/
theorem ev_dE : Ev p false (fun σ H Q => ∀ l, H l = none → Q (.ref l) (upd H l (.dK []))) env (some D.dE) := fun z e G0 H0 σ G H s Q k => by
  cases e
  exact fun l hl => k _ _ _ (Gr.new s.gr.s hl) ⟨l, rfl, upd_same⟩
/-- an item of a list of unlike things that is new through and through -/
theorem ent_consD {n : Nat} {ma : Option α} {ms : Option (List D)} (h : EvN p ta env ma) (hr : EnT p n tr env ms) : EnT p (n + 1) (tCons ta tr) env (ma.bind fun x => ms.bind fun l => some (enc x :: l)) := fun z e => by
  have h' : EvN p ta env (ma.bind fun x => some (enc x : D)) := fun y ey => by
    obtain ⟨x, e1, e2⟩ := bind_some ey
    cases e2
    exact h x e1
  refine ent_cons h' hr z ?_
  obtain ⟨l, e1, e⟩ := bind_some e
  cases e
  obtain ⟨x, e2, e3⟩ := bind_some e1
  obtain ⟨l2, e4, e5⟩ := bind_some e3
  cases e5
  rw [e2, e4]; rfl
/-- a name whose slot bears the table as well -/
theorem ev_tab {P : Addr} {q : Str} {i : Nat} {x : α} (h : env[i]? = some (.rs (tabR P q (enc x)))) : Ev p false (tVar i) env (some x) := fun y e G0 H0 σ G H s Q k => by
  cases e
  obtain ⟨Fs, f⟩ := s.rs
  obtain ⟨v, a1, ⟨r1, _⟩, _, _⟩ := f.wh i _ h
  exact ⟨v, a1, k v G H (.refl s.gr.s) r1⟩
end
/-! ### a lambda that asks a method of the shelf -/
theorem lok_S {P : Program} {w : World} {p : Pm} {mg : Str → Option Value} {base : Heap} {k : Nat} {f : Addr} {F : LF} {a b m : Str} {tas : TA} {τ : Type} {ea : τ → List D} {g : τ → Option Nat} {T : Shf → D → τ} {args : Shf → D → List D} {r : Shf → D → Option Nat} (S : NScope [a, b] [a] [b] F.scope)
    (hb : ∀ (pm ctv : Value) (us : List Value), us.length = [a].length → bindArgs (F.fd pm ctv) ⟨us, []⟩ = pure ([a].zip us))
    (hbody : ∀ (A : Around) (outer : List Env) (s : Shared) (H : Hp) (E : XK), Room k (A.deeper (envF F.nf f s.heap.objs.size)) → PE (ncx (L2N.CX P w) P w p.K mg base [a, b] F.nf f A outer s H E) F.body (tMeth (p.cl 6) m (spX p ea g) [] E (tVar 1) tas))
    (ha : ∀ S d, EvA p tas [.va d, .va (enc S)] (some (args S d))) (hea : ∀ S d, ea (T S d) = enc S :: args S d) (hr : ∀ S d c, r S d = some c → g (T S d) = some c)
    (hn : (m == "books") = false ∧ (m == "weights") = false ∧ (m == "nailed") = false ∧ (m == "paid") = false ∧ (m == "done") = false) : LOk P w p.K mg base (L2N.CX P w) (k + 1) f F [a] [b] (lspS p r) := by
  refine lok_of S hb (fun ws vs H Q E h => ?_) fun A outer s H vs ws Q E hr' hw h => ?_
  · obtain ⟨_, _, _, _, _, u, _, _, rfl, _⟩ := h
    rfl
  · obtain ⟨G, Sh, d, c, sv, u, sg, rfl, rfl, r1, r2, e, q⟩ := h
    refine ⟨_, hbody A outer s H E hr', ?_⟩
    have st : Sts p G H [.va d, .va (enc Sh)] (startF [a, b] [u] [some sv]) G H := by
      refine ⟨.refl sg, rfl, fun i d' e => ?_, fun _ => nil, fun i r' e => ?_, fun i j r1 r2 a o _ e => ?_⟩
      · match i, e with
        | 0, e => cases e; exact ⟨u, rfl, r2⟩
        | 1, e => cases e; exact ⟨sv, rfl, r1⟩
      · match i, e with
        | 0, e => cases e
        | 1, e => cases e
      · match i, e with
        | 0, e => cases e
        | 1, e => cases e
    refine meth_at hn (ev_var (x := Sh) rfl) (ha Sh d) st fun v vs G1 H1 g1 r3 => ⟨G1, T Sh d, c, g1.s, by rw [List.append_nil, hea]; exact r3, hr Sh d c e, fun G2 H2 g2 => q G2 H2 (g1.trans g2)⟩
section
variable {X : Cx}
theorem pe_askC {k j kl : Nat} {x : Str} {c P : Addr} {lps fr : List Str} {js : List Nat} {SPX : (List (Option V) → Sp) → List (Option V) → List V → Hp → VK → Prop} {lsp : List (Option V) → Sp} {params : Arguments} {body : Expr} {scope : Scope} {lpos p1 pos : Pos} {es : List Expr} {t : TA}
    (A : AskC X.prog X.w X.K X.mg X.base x k kl SPX) (h1 : lps.length = 1) (hr : Room j X.A) (hj : k ≤ j) (hg : Gl X x)
    (TB : TabB X.base X.mg c P) (hcode : X.env.code = .ref c) (hdef : defaultsOf params X.env = ([], [])) (hnd : NdefX.ndefB X.env.scope scope fr = true) (hjs : js.map (fun j => X.N[j]?) = fr.map some)
    (L : ∀ f c', LOk X.prog X.w X.K X.mg X.base (L2N.CX X.prog X.w) kl f ⟨X.env.qual ++ "<lambda>", params, body, scope, cloFrom X.env.cells scope.names [], c'⟩ lps fr lsp) (ha : PA X es t)
    (hdb : (x == ("__debug__" : Str)) = false := by decide) (he : starEach (.Lambda params body scope lpos :: es) X.env = (false, eval (.Lambda params body scope lpos) X.env) :: starEach es X.env := by rfl) (hpl : (backTo pos (starEach es X.env)).any (·.1) = false := by rfl) :
    PE X (.Call (.Name x p1) (.Lambda params body scope lpos :: es) [] pos) (tAsk P (X.env.qual ++ "<lambda>") (fun c' => ⟨X.env.qual ++ "<lambda>", params, body, scope, cloFrom X.env.cells scope.names [], c'⟩) js SPX lsp t) := by
  obtain ⟨g, hA, hm, hk⟩ := A.ex
  exact pe_ask (hA lps fr h1) (hr.mono hj) hg hm hk TB hcode hdef (NdefX.ndef_free hnd) (fun ok => Caps.made ok (NdefX.ndef_free hnd) (NdefX.ndef_fr hnd) hjs) L ha hdb he hpl
end
/-! ### the law's start -/
def spTab (p : Pm) (P : Addr) (f : Scr → Option Bool) : Sp := fun vs H Q _ => ∃ (a : Addr) (ns : List Int), vs = [.ref a] ∧ SqL p.K H a (ns.map V.int) ∧ H P = some (.tbl #[]) ∧ f ⟨ns⟩ = some true ∧ ∀ H', Q (.bl true) H'
theorem def_okT {P : Program} {w : World} {p : Pm} {mg : Str → Option Value} {base : Heap} {Pt c : Addr} {q : Str} {f : Scr → Option Bool} {x : Str} {stm : Stmt} {fa : Addr} {N ps : List Str} {k n : Nat} {oc kV dc pm ct : Value} {an od : Option Addr} {osl : Array (Option Value)}
    (lk : p.K.lookup fa = some ⟨oc, od, .func (PySem.W.fnOf x x (defArgs stm) (defBody stm) (defScope stm) .none kV dc pm an (.ref c) ct), osl⟩) (hcd : PySem.W.codeIn p.K (.ref c) x = true) (S : FnScope N ps (defScope stm)) (hps : ps.length = 1) (hN : N.length = 1 + n)
    (body : ∀ (A : Around) (outer : List Env) (s : Shared) (H : Hp) (E : XK), Room k (A.deeper (envOfC x (defScope stm) s.heap.objs.size fa (.ref c))) →
      ∃ t, PSs (cxOf CX0 P w p.K mg base N x (defScope stm) fa (.ref c) A outer s H E).nox (defBody stm) t ∧ ∀ a : Scr, Bk p t (Sl.rs (tabR Pt q (enc a)) :: List.replicate n .fr) (f a) (pR p false Bool)) : FnOk P w p.K mg base CX0 (k + 1) fa (PySem.W.fnOf x x (defArgs stm) (defBody stm) (defScope stm) .none kV dc pm an (.ref c) ct) ps (spTab p Pt f) := by
  refine fn_of lk hcd S (fun vs H Q E h => ?_) fun A outer s H vs Q E hr h => ?_
  · obtain ⟨a, ns, rfl, _⟩ := h
    exact hps.symm
  · obtain ⟨a, ns, rfl, hS, hP, e, hq⟩ := h
    obtain ⟨t, h1, h2⟩ := body A outer s H E hr
    refine ⟨t, h1.nox, ?_⟩
    let G : Hp := fun b => if b = Pt then none else H b
    have gP : G Pt = none := if_pos rfl
    have gs : Same G H := fun b o e => by
      by_cases c : b = Pt
      · rw [c, gP] at e; cases e
      · have : (if b = Pt then none else H b) = some o := e
        rw [if_neg c] at this; exact this
    have gk : ∀ b o, H b = some o → b ≠ Pt → G b = some o := fun b o e c => by
      show (if b = Pt then none else H b) = some o
      rw [if_neg c]; exact e
    have sS : SqL p.K G a (ns.map V.int) := by
      have off : ∀ {u}, H a = some u → (∀ ps, u ≠ .tbl ps) → a ≠ Pt := fun {u} e1 e2 z => by
        rw [z, hP] at e1
        exact e2 _ (Option.some.inj e1).symm
      rcases hS with (z | ⟨o, z⟩) | z
      · exact .inl (.inl (gk _ _ z (off z fun ps y => by cases y)))
      · exact .inl (.inr ⟨o, gk _ _ z (off z fun ps y => by cases y)⟩)
      · exact .inr z
    have st : Sts p G G (Sl.rs (tabR Pt q (enc (⟨ns⟩ : Scr))) :: List.replicate n .fr) (L2.start N [.ref a]) G H := by
      refine ⟨⟨.refl _, gs, gs, fun a o e k => by rw [k] at e; cases e⟩, ?_, fun i d e => ?_, fun i => if i = 0 then sing Pt (.tbl #[]) else nil, fun i r e => ?_, fun i j r r' b o nij e1 e2 eb => ?_⟩
      · unfold L2.start
        simp
        omega
      · cases i with
        | zero => cases e
        | succ i =>
          rw [List.getElem?_cons_succ, List.getElem?_replicate] at e
          split at e <;> cases e
      · cases i with
        | zero =>
          cases e
          refine ⟨.ref a, by unfold L2.start; rfl, ⟨⟨a, rfl, sS⟩, #[], rfl, True.intro, fun p' cv z => ?_⟩, fun b o eb => ?_, fun b o eb => ?_⟩
          · have z : codeAmong p' [] = some cv := z
            simp [codeAmong] at z
          · have eb : sing Pt (HO.tbl #[]) b = some o := eb
            obtain ⟨rfl, rfl⟩ := sing_iff.mp eb
            exact hP
          · have eb : sing Pt (HO.tbl #[]) b = some o := eb
            obtain ⟨rfl, rfl⟩ := sing_iff.mp eb
            exact ⟨gP, gP⟩
        | succ i =>
          rw [List.getElem?_cons_succ, List.getElem?_replicate] at e
          split at e <;> cases e
      · cases i with
        | zero =>
          cases j with
          | zero => exact absurd rfl nij
          | succ j =>
            rw [List.getElem?_cons_succ, List.getElem?_replicate] at e2
            split at e2 <;> cases e2
        | succ i =>
          rw [List.getElem?_cons_succ, List.getElem?_replicate] at e1
          split at e1 <;> cases e1
    exact h2 ⟨ns⟩ true e G G _ G H st _ fun v G' H' g r => by
      rw [show v = V.bl true from r]
      exact hq H'
end PU

set_option Elab.async false
set_option maxRecDepth 100000
set_option linter.all false
set_option maxHeartbeats 4000000
/-! PU41: the try within _law_refused. -/
namespace PU
open PySem PySem.Spec PyProof.Rows L2
open Enc
theorem takes0N {X : Cx} : L2N.Takes X (fun _ _ _ _ => False) := fun _ _ x => by
  obtain ⟨_, _, _, _, _, _, _, _, _, _, _, _, _, _, _, _, z⟩ := x
  exact z.elim
/-- the reference f; all of G' is known -/
def lamR (G' : Hp) (f : Addr) : Rs where
  R := fun _ G v F => v = .ref f ∧ F = nil ∧ Same G' G
  mono := fun e ⟨h1, h2, h3⟩ => ⟨h1, h2, h3.trans e⟩
theorem Sts.set_fr {p : Pm} {G0 H0 G H : Hp} {env : List Sl} {σ : L2.St} {i : Nat} {x : Option V} (s : Sts p G0 H0 env σ G H) : Sts p G0 H0 (env.set i .fr) (σ.set i x) G H := by
  obtain ⟨Fs, f⟩ := s.rs
  have key : ∀ {j : Nat} {y : Sl}, (env.set i .fr)[j]? = some y → y ≠ .fr → i ≠ j ∧ env[j]? = some y := fun {j y} e n => by
    rcases set_get e with ⟨_, q, _⟩ | ⟨hj, e⟩
    · exact absurd q n
    · exact ⟨hj, e⟩
  refine ⟨s.gr, by simp [s.len], fun j d e => ?_, Fs, fun j r e => ?_, fun j k r r' a o n e e' => ?_⟩
  · obtain ⟨hj, e⟩ := key e (by intro z; cases z)
    rw [List.getElem?_set_ne hj]
    exact s.va j d e
  · obtain ⟨hj, e⟩ := key e (by intro z; cases z)
    rw [List.getElem?_set_ne hj]
    exact f.wh j r e
  · exact f.ap j k r r' a o n (key e (by intro z; cases z)).2 (key e' (by intro z; cases z)).2
/-- what the call of _law_which in the suite wants -/
def SPWh (p : Pm) (cs : List Nat) (cls : Value) (d : Option Addr) : Hp → VK → Prop := fun H Q => ∃ c, c ∈ cs ∧ cls = .ref (p.cl c) ∧ d = none ∧ ∀ H', Same H H' → Q (.int ((c : Int) - 10)) H'
def tWhich (p : Pm) (cs : List Nat) (a : Addr) (cls : Value) (d : Option Addr) : TE := fun σ H Q => σ[5]? = some (some (.ref a)) ∧ SPWh p cs cls d H Q
def tTryR (p : Pm) (cs : List Nat) (f : Addr) (F : LF) (ws : List (Option V)) (lsp : List (Option V) → Sp) : TS := fun D σ H =>
  tDrop (tAct 0 f F ws lsp (L2.WE (wAs p.K (.ref (p.cl 16)) 5 (fun a cls d => tAsg (tWhich p cs a cls d) (gName 4)) (fun _ _ _ _ => False) D)) (tCons (tVar 3) tNil)) D σ H
section
variable {p : Pm} {mg : Str → Option Value} {ρ : Type} {Po : Post ρ} {tz : TS}
theorem k_tryR {cs : List Nat} {f : Addr} {F : LF} {ws : List (Option V)} {lsp : List (Option V) → Sp} {G' : Hp} {ds : List D} {due x : Int} {d : D} {r : D → Option Nat} {rest : Nat → Option ρ} (hR : ∀ c ∈ cs, ∃ n, ErrR p mg c n) (hl : LamAt f F G')
    (hlsp : ∀ d c, r d = some c → ∀ G1 H1 u Q1 E1, Same G' G1 → Same G1 H1 → Rp p G1 d u → (∀ G2 H2, Gr G1 G2 H1 H2 → E1 (.ref (p.cl c)) none H2) → lsp ws [u] H1 Q1 E1)
    (k : ∀ c : Nat, Bk p tz [.rs (lamR G' f), .va (.lst ds), .va (.int due), .va d, .va (enc ((c : Int) - 10)), .fr] (rest c) Po) :
    Bk p (tSeq (tTryR p cs f F ws lsp) tz) [.rs (lamR G' f), .va (.lst ds), .va (.int due), .va d, .va (.int x), .fr] ((r d).bind fun c => if c ∈ cs then rest c else none) Po := fun res e G0 H0 σ G H st D q => by
  obtain ⟨c, ec, e⟩ := bind_some e
  split at e
  · rename_i hc
    obtain ⟨Fs, ff⟩ := st.rs
    obtain ⟨v0, a1, ⟨rfl, _, sm⟩, _, _⟩ := ff.wh 0 _ rfl
    obtain ⟨u, b1, b2⟩ := st.va 3 d rfl
    obtain ⟨n, R⟩ := hR c hc
    have hlG := hl.same sm
    have hlH := hlG.same st.gr.s
    have sl : σ.length = 6 := st.len
    refine ⟨a1, hlH, u, b1, hlH, ?_⟩
    refine hlsp d c ec G H u _ _ sm st.gr.s b2 fun G2 H2 g2 => ?_
    refine ⟨true, R.ca, fun _ a ha => ?_, fun z => by cases z⟩
    refine ⟨by rw [List.getElem?_set_self (by omega)], c, hc, rfl, rfl, fun H3 s3 => ?_⟩
    have g3 : Gr G2 G2 H2 H3 := ⟨.refl _, g2.s.trans s3, s3, fun a o e k => by rw [k] at e; cases e⟩
    have st2 := ((st.step g2).step g3)
    have st3 := ((st2.set_fr (i := 5) (x := some (.ref a))).set_va (i := 4) (d := .int ((c : Int) - 10)) (v := .int ((c : Int) - 10)) rfl).set_fr (i := 5) (x := none)
    exact k c res e G0 H0 _ G2 H3 st3 D (Po.mono g2.g q)
  · cases e
end
end PU

set_option pp.maxSteps 200
set_option Elab.async false
set_option maxRecDepth 100000
set_option maxHeartbeats 4000000
set_option linter.all false
namespace Fw
open PySem L2 PU
open PU.Enc
def heights (v_order : List (Int)) (v_weights : List (Int)) : Option (List ((Int) × (Int))) :=
  (((some ([] : List ((Int) × (Int))))).bind fun (v_found_1 : List ((Int) × (Int))) => ((((((some v_order)).bind fun x3 => some (enumL x3))).bind fun l35 => forS (fun (s2 : (List ((Int) × (Int)))) (a4 : (Int) × (Int)) => (((some (0 : Int))).bind fun (v_best_6 : Int) => ((((some (1 : Int))).bind fun x5 => some (-x5))).bind fun (v_ahead_7 : Int) => ((((((some a4.1)).bind fun x9 => rng? 0 x9)).bind fun l26 => forS (fun (s8 : (Int) × (Int)) (a10 : Int) => ((((((((((some v_order)).bind fun x11 => ((some a10)).bind fun x12 => atI x11 x12)).bind fun x13 => ((some a4.2)).bind fun x14 => some (decide (x13 < x14)))).bind fun x19 => if x19 = true then (((((((some a10)).bind fun x15 => atI s2 x15)).bind fun x16 => some x16.1)).bind fun x17 => ((some s8.1)).bind fun x18 => some (decide (x18 < x17))) else some false)).bind fun b20 => if b20 = true then (((((((some a10)).bind fun x21 => atI s2 x21)).bind fun x22 => some x22.1)).bind fun (v_best_23 : Int) => ((some a10)).bind fun (v_ahead_24 : Int) => (some (v_best_23, v_ahead_24))) else (some (s8.1, s8.2)) : Option ((Int) × (Int))).bind fun s25 => (some (s25.1, s25.2)))) (v_best_6, v_ahead_7) l26).bind fun (s8 : (Int) × (Int)) => (((((((some s8.1)).bind fun x30 => ((((some v_weights)).bind fun x28 => ((some a4.2)).bind fun x29 => atI x28 x29)).bind fun x31 => some (x30 + x31))).bind fun x32 => ((some s8.2)).bind fun x33 => some (x32, x33))).bind fun x34 => (app? s2 x34).bind fun (v_found_27 : List ((Int) × (Int))) => (some v_found_27))))) v_found_1 l35).bind fun (s2 : (List ((Int) × (Int)))) => (some s2)))
def staying (v_order : List (Int)) (v_weights : List (Int)) : Option (List (Int)) :=
  (((((some v_order)).bind fun x1 => ((some v_weights)).bind fun x2 => heights x1 x2)).bind fun (v_tall_3 : List ((Int) × (Int))) => (((((some v_tall_3)).bind fun x4 => ((some ([] : List ((Int) × (Int))))).bind fun x5 => some (decide (x4 = x5)))).bind fun b6 => if b6 = true then (some ([] : List (Int))) else (((((((some v_tall_3)).bind fun x9 => lc? (fun (a7 : (Int) × (Int)) => (some true)) (fun (a7 : (Int) × (Int)) => (((some a7)).bind fun x8 => some x8.1)) x9)).bind fun x16 => ((((((some v_tall_3)).bind fun x13 => lc? (fun (a11 : (Int) × (Int)) => (some true)) (fun (a11 : (Int) × (Int)) => (((some a11)).bind fun x12 => some x12.1)) x13)).bind fun x15 => maxL x15)).bind fun x17 => idx? x16 x17)).bind fun (v_at_18 : Int) => (((some ([] : List (Int)))).bind fun (v_found_19 : List (Int)) => ((whS (fun (s20 : (Int) × (List (Int))) => (((some s20.1)).bind fun x21 => ((some (0 : Int))).bind fun x22 => some (decide (x22 ≤ x21)))) (fun (s20 : (Int) × (List (Int))) => (((((some v_order)).bind fun x24 => ((some s20.1)).bind fun x25 => atI x24 x25)).bind fun x26 => (app? s20.2 x26).bind fun (v_found_23 : List (Int)) => (((((((some v_tall_3)).bind fun x27 => ((some s20.1)).bind fun x28 => atI x27 x28)).bind fun x29 => some x29.2)).bind fun (v_at_30 : Int) => (some (v_at_30, v_found_23))))) 100 (v_at_18, v_found_19)).bind fun (s20 : (Int) × (List (Int))) => (((some s20.2)).bind fun x31 => some x31.reverse))))))
def paper (v_order : List (Int)) (v_weights : List (Int)) : Option (List ((List (Int)) × (Int))) :=
  (((((((some v_order)).bind fun x1 => ((some v_weights)).bind fun x2 => heights x1 x2)).bind fun x5 => lc? (fun (a3 : (Int) × (Int)) => (some true)) (fun (a3 : (Int) × (Int)) => (((some a3)).bind fun x4 => some x4.1)) x5)).bind fun (v_tall_7 : List (Int)) => (((some ([] : List ((List (Int)) × (Int))))).bind fun (v_found_8 : List ((List (Int)) × (Int))) => ((((((some (1 : Int))).bind fun x22 => ((((((((((some (0 : Int))).bind fun x15 => ((some ([] : List (Int)))).bind fun l16 => some (x15 :: l16))).bind fun x17 => ((some v_tall_7)).bind fun x18 => cat? x17 x18)).bind fun x19 => maxL x19)).bind fun x20 => ((some (1 : Int))).bind fun x21 => some (x20 + x21))).bind fun x23 => rng? x22 x23)).bind fun l71 => forS (fun (s9 : (List ((List (Int)) × (Int)))) (a24 : Int) => (((((((some v_order)).bind fun x25 => some (enumL x25))).bind fun x38 => lc? (fun (a26 : (Int) × (Int)) => (((((((some v_tall_7)).bind fun x27 => ((some a26.1)).bind fun x28 => atI x27 x28)).bind fun x31 => ((((some v_weights)).bind fun x29 => ((some a26.2)).bind fun x30 => atI x29 x30)).bind fun x32 => some (x31 - x32))).bind fun x35 => ((some a24)).bind fun x36 => if decide (x35 < x36) = true then ((((some v_tall_7)).bind fun x33 => ((some a26.1)).bind fun x34 => atI x33 x34)).bind fun x37 => some (decide (x36 ≤ x37)) else some false)) (fun (a26 : (Int) × (Int)) => (some a26.2)) x38)).bind fun (v_row_40 : List (Int)) => ((((((((some ([] : List ((List (Int)) × (Int))))).bind fun x41 => some (!decide (s9 = x41)))).bind fun x50 => if x50 = true then (((((((((some (1 : Int))).bind fun x45 => some (-x45))).bind fun x46 => atI s9 x46)).bind fun x47 => some x47.1)).bind fun x48 => ((some v_row_40)).bind fun x49 => some (decide (x48 = x49))) else some false)).bind fun b51 => if b51 = true then (((((some v_row_40)).bind fun x60 => ((((((((((some (1 : Int))).bind fun x55 => some (-x55))).bind fun x56 => atI s9 x56)).bind fun x57 => some x57.2)).bind fun x58 => ((some (1 : Int))).bind fun x59 => some (x58 + x59))).bind fun x61 => some (x60, x61))).bind fun x63 => ((((some (1 : Int))).bind fun x62 => some (-x62))).bind fun x64 => (seti? s9 x64 x63).bind fun (v_found_65 : List ((List (Int)) × (Int))) => (some v_found_65)) else (((((some v_row_40)).bind fun x67 => ((some (1 : Int))).bind fun x68 => some (x67, x68))).bind fun x69 => (app? s9 x69).bind fun (v_found_66 : List ((List (Int)) × (Int))) => (some v_found_66)) : Option ((List ((List (Int)) × (Int))))).bind fun s70 => (some s70)))) v_found_8 l71).bind fun (s9 : (List ((List (Int)) × (Int)))) => (some s9))))
def stand_right (v_order : List (Int)) (v_one : Int) (v_other : Int) : Option (Bool) :=
  (((((some v_one)).bind fun x1 => ((some v_other)).bind fun x2 => some (decide (x1 = x2)))).bind fun x19 => if x19 = true then some true else (((((((some v_order)).bind fun x9 => ((some v_one)).bind fun x10 => idx? x9 x10)).bind fun x13 => ((((some v_order)).bind fun x11 => ((some v_other)).bind fun x12 => idx? x11 x12)).bind fun x14 => some (decide (x13 < x14)))).bind fun x17 => ((((some v_one)).bind fun x15 => ((some v_other)).bind fun x16 => some (decide (x15 < x16)))).bind fun x18 => some (decide (x17 = x18))))
def free_ones (v_order : List (Int)) (v_nailed : List (Int)) : Option (List (Int)) :=
  (((some v_order)).bind fun x9 => lc? (fun (a1 : Int) => (((((some v_nailed)).bind fun x6 => lc? (fun (a2 : Int) => (some true)) (fun (a2 : Int) => (((some v_order)).bind fun x3 => ((some a1)).bind fun x4 => ((some a2)).bind fun x5 => stand_right x3 x4 x5)) x6)).bind fun x8 => some (x8.all id))) (fun (a1 : Int) => (some a1)) x9)
def clash (v_order : List (Int)) (v_nailed : List (Int)) : Option (Option ((Int) × (Int))) :=
  ((((some v_nailed)).bind fun l18 => forB (β := Option ((Int) × (Int))) (fun (s1 : Unit) (a2 : Int) => ((((some v_nailed)).bind fun l17 => forB (β := Option ((Int) × (Int))) (fun (s3 : Unit) (a4 : Int) => (((((((some a2)).bind fun x5 => ((some a4)).bind fun x6 => some (decide (x5 < x6)))).bind fun x11 => if x11 = true then (((((some v_order)).bind fun x7 => ((some a2)).bind fun x8 => ((some a4)).bind fun x9 => stand_right x7 x8 x9)).bind fun x10 => some (!x10)) else some false)).bind fun b12 => if b12 = true then ((((((some a2)).bind fun x13 => ((some a4)).bind fun x14 => some (x13, x14))).bind fun x15 => some (some x15))).bind (fun x16 => some (Rr.rt x16)) else (some (Rr.nx ())))) () l17).bind (Rr.goB fun (s3 : Unit) => (some (Rr.nx ()))))) () l18).bind (Rr.goR fun (s1 : Unit) => (some (none : Option ((Int) × (Int))))))
def weight_of (v_weights : List (Int)) (v_books : List (Int)) : Option (Int) :=
  (((((some v_books)).bind fun x4 => lc? (fun (a1 : Int) => (some true)) (fun (a1 : Int) => (((some v_weights)).bind fun x2 => ((some a1)).bind fun x3 => atI x2 x3)) x4)).bind fun x6 => some x6.sum)
def owed_by (v_order : List (Int)) (v_weights : List (Int)) (v_nailed : List (Int)) : Option (Option (Int)) :=
  (((((((some v_order)).bind fun x1 => ((some v_nailed)).bind fun x2 => clash x1 x2)).bind fun x3 => some (!x3.isNone))).bind fun b4 => if b4 = true then (some (none : Option (Int))) else (((((((some v_weights)).bind fun x5 => some x5.sum)).bind fun x12 => ((((some v_weights)).bind fun x10 => ((((((some v_order)).bind fun x6 => ((some v_nailed)).bind fun x7 => free_ones x6 x7)).bind fun x8 => ((some v_weights)).bind fun x9 => staying x8 x9)).bind fun x11 => weight_of x10 x11)).bind fun x13 => some (x12 - x13))).bind fun x14 => some (some x14)))
def put_at (v_order : List (Int)) (v_book : Int) (v_place : Int) : Option (List (Int)) :=
  (((((some v_order)).bind fun x4 => lc? (fun (a1 : Int) => (((some a1)).bind fun x2 => ((some v_book)).bind fun x3 => some (!decide (x2 = x3)))) (fun (a1 : Int) => (some a1)) x4)).bind fun (v_rest_6 : List (Int)) => (((((((some v_rest_6)).bind fun x8 => ((some (none : Option Int))).bind fun x9 => ((((some v_place)).bind fun x7 => some (some x7))).bind fun x10 => some (cut x8 x9 x10))).bind fun x13 => ((((some v_book)).bind fun x11 => ((some ([] : List (Int)))).bind fun l12 => some (x11 :: l12))).bind fun x14 => cat? x13 x14)).bind fun x19 => ((((some v_rest_6)).bind fun x16 => ((((some v_place)).bind fun x15 => some (some x15))).bind fun x17 => ((some (none : Option Int))).bind fun x18 => some (cut x16 x17 x18))).bind fun x20 => cat? x19 x20))
def place_among (v_order : List (Int)) (v_book : Int) (v_settled : List (Int)) : Option (Int) :=
  (((((some v_order)).bind fun x4 => lc? (fun (a1 : Int) => (((some a1)).bind fun x2 => ((some v_book)).bind fun x3 => some (!decide (x2 = x3)))) (fun (a1 : Int) => (some a1)) x4)).bind fun (v_rest_11 : List (Int)) => ((((some v_settled)).bind fun x9 => lc? (fun (a6 : Int) => (((some a6)).bind fun x7 => ((some v_book)).bind fun x8 => some (decide (x7 < x8)))) (fun (a6 : Int) => (some a6)) x9)).bind fun (v_lesser_12 : List (Int)) => (((((some v_lesser_12)).bind fun x13 => ((some ([] : List (Int)))).bind fun x14 => some (!decide (x13 = x14)))).bind fun x23 => if x23 = true then (((((some v_rest_11)).bind fun x19 => ((((some v_lesser_12)).bind fun x18 => maxL x18)).bind fun x20 => idx? x19 x20)).bind fun x21 => ((some (1 : Int))).bind fun x22 => some (x21 + x22)) else (some (0 : Int))))
def are_in (v_order : List (Int)) (v_books : List (Int)) : Option (Bool) :=
  (((((((((some v_books)).bind fun x4 => lc? (fun (a1 : Int) => (some true)) (fun (a1 : Int) => (((some a1)).bind fun x2 => ((some v_order)).bind fun x3 => some (decide (x2 ∈ x3)))) x4)).bind fun x6 => some (x6.all id))).bind fun x7 => some (!x7))).bind fun b8 => if b8 = true then (some false) else (((((some v_books)).bind fun x12 => lc? (fun (a9 : Int) => (some true)) (fun (a9 : Int) => (((some v_order)).bind fun x10 => ((some a9)).bind fun x11 => idx? x10 x11)) x12)).bind fun (v_places_14 : List (Int)) => (((((((((some v_places_14)).bind fun x19 => ((((some v_places_14)).bind fun x16 => ((((some (1 : Int))).bind fun x15 => some (some x15))).bind fun x17 => ((some (none : Option Int))).bind fun x18 => some (cut x16 x17 x18))).bind fun x20 => some (List.zip x19 x20))).bind fun x24 => lc? (fun (a21 : (Int) × (Int)) => (some true)) (fun (a21 : (Int) × (Int)) => (((some a21.1)).bind fun x22 => ((some a21.2)).bind fun x23 => some (decide (x23 ≤ x22)))) x24)).bind fun x26 => some (x26.any id))).bind fun x27 => some (!x27))))
def is_staying (v_order : List (Int)) (v_books : List (Int)) : Option (Bool) :=
  (((((some v_order)).bind fun x1 => ((some v_books)).bind fun x2 => are_in x1 x2)).bind fun x16 => if x16 = true then (((((((((some v_books)).bind fun x7 => ((((some v_books)).bind fun x4 => ((((some (1 : Int))).bind fun x3 => some (some x3))).bind fun x5 => ((some (none : Option Int))).bind fun x6 => some (cut x4 x5 x6))).bind fun x8 => some (List.zip x7 x8))).bind fun x12 => lc? (fun (a9 : (Int) × (Int)) => (some true)) (fun (a9 : (Int) × (Int)) => (((some a9.1)).bind fun x10 => ((some a9.2)).bind fun x11 => some (decide (x11 ≤ x10)))) x12)).bind fun x14 => some (x14.any id))).bind fun x15 => some (!x15)) else some false)
def is_whole (v_thing : Int) : Option (Bool) :=
  (((((some v_thing)).bind fun _ => some true)).bind fun x2 => if x2 = true then (((((some v_thing)).bind fun _ => some false)).bind fun x1 => some (!x1)) else some false)
def is_between (v_thing : Int) (v_least : Int) (v_most : Int) : Option (Bool) :=
  (((((some v_thing)).bind fun x1 => is_whole x1)).bind fun x5 => if x5 = true then (((some v_least)).bind fun x2 => ((some v_thing)).bind fun x3 => if decide (x2 ≤ x3) = true then ((some v_most)).bind fun x4 => some (decide (x3 ≤ x4)) else some false) else some false)
def are_books (v_thing : List (Int)) (v_many : Int) : Option (Bool) :=
  (((((((((some v_thing)).bind fun _ => some true)).bind fun x1 => some (!x1))).bind fun x8 => if x8 = true then some true else (((((((some v_thing)).bind fun x4 => lc? (fun (a2 : Int) => (some true)) (fun (a2 : Int) => (((some a2)).bind fun x3 => is_whole x3)) x4)).bind fun x6 => some (x6.all id))).bind fun x7 => some (!x7)))).bind fun b9 => if b9 = true then (some false) else (((((some v_thing)).bind fun x11 => sort? x11)).bind fun x13 => ((((some v_many)).bind fun x12 => rng? 0 x12)).bind fun x14 => some (decide (x13 = x14))))
def check_weights (v_many : Int) (v_weights : List (Int)) : Option (Unit) :=
  (((((((((some v_weights)).bind fun _ => some true)).bind fun x1 => some (!x1))).bind fun x6 => if x6 = true then some true else (((((some v_weights)).bind fun x3 => some (x3.length : Int))).bind fun x4 => ((some v_many)).bind fun x5 => some (!decide (x4 = x5))))).bind fun b7 => if b7 = true then none else (((((((((some v_weights)).bind fun x12 => lc? (fun (a8 : Int) => (some true)) (fun (a8 : Int) => (((some a8)).bind fun x9 => ((some (1 : Int))).bind fun x10 => ((some (9 : Int))).bind fun x11 => is_between x9 x10 x11)) x12)).bind fun x14 => some (x14.all id))).bind fun x15 => some (!x15))).bind fun b16 => if b16 = true then none else (some ())))
def check_all (v_order : List (Int)) (v_weights : List (Int)) (v_most : Int) : Option (Unit) :=
  (((((((((some v_order)).bind fun _ => some true)).bind fun x1 => some (!x1))).bind fun x12 => if x12 = true then some true else (((((((some (1 : Int))).bind fun x3 => ((((some v_order)).bind fun x2 => some (x2.length : Int))).bind fun x4 => if decide (x3 ≤ x4) = true then ((some v_most)).bind fun x5 => some (decide (x4 ≤ x5)) else some false)).bind fun x6 => some (!x6))).bind fun x11 => if x11 = true then some true else (((((some v_order)).bind fun x8 => ((((some v_order)).bind fun x7 => some (x7.length : Int))).bind fun x9 => are_books x8 x9)).bind fun x10 => some (!x10))))).bind fun b13 => if b13 = true then none else (((((((some v_order)).bind fun x14 => some (x14.length : Int))).bind fun x15 => ((some v_weights)).bind fun x16 => check_weights x15 x16)).bind fun x17 => (some ())))
def check_nailed (v_many : Int) (v_nailed : List (Int)) : Option (Unit) :=
  (((((((((some v_nailed)).bind fun _ => some true)).bind fun x1 => some (!x1))).bind fun x12 => if x12 = true then some true else (((((((some v_nailed)).bind fun x8 => lc? (fun (a2 : Int) => (some true)) (fun (a2 : Int) => (((some a2)).bind fun x5 => ((some (0 : Int))).bind fun x6 => ((((some v_many)).bind fun x3 => ((some (1 : Int))).bind fun x4 => some (x3 - x4))).bind fun x7 => is_between x5 x6 x7)) x8)).bind fun x10 => some (x10.all id))).bind fun x11 => some (!x11)))).bind fun b13 => if b13 = true then none else (((((((((some v_nailed)).bind fun x18 => ((((some v_nailed)).bind fun x15 => ((((some (1 : Int))).bind fun x14 => some (some x14))).bind fun x16 => ((some (none : Option Int))).bind fun x17 => some (cut x15 x16 x17))).bind fun x19 => some (List.zip x18 x19))).bind fun x23 => lc? (fun (a20 : (Int) × (Int)) => (some true)) (fun (a20 : (Int) × (Int)) => (((some a20.1)).bind fun x21 => ((some a20.2)).bind fun x22 => some (decide (x22 ≤ x21)))) x23)).bind fun x25 => some (x25.any id))).bind fun b26 => if b26 = true then none else (some ())))
def check_three (v_order : List (Int)) (v_weights : List (Int)) (v_nailed : List (Int)) : Option (Unit) :=
  (((((some v_order)).bind fun x1 => ((some v_weights)).bind fun x2 => ((some (24 : Int))).bind fun x3 => check_all x1 x2 x3)).bind fun x8 => (((((((some v_order)).bind fun x4 => some (x4.length : Int))).bind fun x5 => ((some v_nailed)).bind fun x6 => check_nailed x5 x6)).bind fun x7 => (some ())))
def read_from (v_order : List (Int)) (v_book : Int) : Option (List (Int)) :=
  (((((some v_order)).bind fun x1 => ((some v_book)).bind fun x2 => idx? x1 x2)).bind fun (v_at_4 : Int) => ((((some v_order)).bind fun x3 => some (x3.length : Int))).bind fun (v_many_5 : Int) => (((((((some v_order)).bind fun x11 => ((((some v_at_4)).bind fun x10 => some (some x10))).bind fun x12 => ((some (none : Option Int))).bind fun x13 => some (cut x11 x12 x13))).bind fun x18 => ((((some v_order)).bind fun x15 => ((some (none : Option Int))).bind fun x16 => ((((some v_at_4)).bind fun x14 => some (some x14))).bind fun x17 => some (cut x15 x16 x17))).bind fun x19 => cat? x18 x19)).bind fun x25 => lc? (fun (a20 : Int) => (some true)) (fun (a20 : Int) => (((((some a20)).bind fun x21 => ((some v_book)).bind fun x22 => some (x21 - x22))).bind fun x23 => ((some v_many_5)).bind fun x24 => fmod? x23 x24)) x25))
def weights_from (v_weights : List (Int)) (v_book : Int) : Option (List (Int)) :=
  (((((some v_weights)).bind fun x2 => ((((some v_book)).bind fun x1 => some (some x1))).bind fun x3 => ((some (none : Option Int))).bind fun x4 => some (cut x2 x3 x4))).bind fun x9 => ((((some v_weights)).bind fun x6 => ((some (none : Option Int))).bind fun x7 => ((((some v_book)).bind fun x5 => some (some x5))).bind fun x8 => some (cut x6 x7 x8))).bind fun x10 => cat? x9 x10)
def round_stays (v_order : List (Int)) (v_weights : List (Int)) : Option (List (List (Int))) :=
  (((some ([] : List (List (Int))))).bind fun (v_found_1 : List (List (Int))) => ((((((((some v_order)).bind fun x3 => some (x3.length : Int))).bind fun x4 => rng? 0 x4)).bind fun l24 => forS (fun (s2 : (List (List (Int)))) (a5 : Int) => (((((some v_order)).bind fun x6 => ((some a5)).bind fun x7 => read_from x6 x7)).bind fun (v_turned_10 : List (Int)) => ((((some v_weights)).bind fun x8 => ((some a5)).bind fun x9 => weights_from x8 x9)).bind fun (v_mine_11 : List (Int)) => (((((((some v_turned_10)).bind fun x13 => ((some v_mine_11)).bind fun x14 => staying x13 x14)).bind fun x21 => lc? (fun (a15 : Int) => (some true)) (fun (a15 : Int) => (((((some a15)).bind fun x16 => ((some a5)).bind fun x17 => some (x16 + x17))).bind fun x19 => ((((some v_order)).bind fun x18 => some (x18.length : Int))).bind fun x20 => fmod? x19 x20)) x21)).bind fun x23 => (app? s2 x23).bind fun (v_found_12 : List (List (Int))) => (some v_found_12)))) v_found_1 l24).bind fun (s2 : (List (List (Int)))) => (some s2)))
def course (v_order : List (Int)) (v_nailed : List (Int)) (v_plan : List ((Int) × (Int))) : Option ((List (Int)) × (Int)) :=
  ((((((some v_plan)).bind fun x2 => some (enumL x2))).bind fun l23 => forB (β := (List (Int)) × (Int)) (fun (s1 : (List (Int))) (a3 : (Int) × ((Int) × (Int))) => (((((((some a3.2.1)).bind fun x4 => ((some s1)).bind fun x5 => some (!decide (x4 ∈ x5)))).bind fun x14 => if x14 = true then some true else (((((some a3.2.1)).bind fun x6 => ((some v_nailed)).bind fun x7 => some (decide (x6 ∈ x7)))).bind fun x13 => if x13 = true then some true else (((((some (0 : Int))).bind fun x9 => ((some a3.2.2)).bind fun x10 => if decide (x9 ≤ x10) = true then ((((some s1)).bind fun x8 => some (x8.length : Int))).bind fun x11 => some (decide (x10 < x11)) else some false)).bind fun x12 => some (!x12))))).bind fun b15 => if b15 = true then ((((some s1)).bind fun x16 => ((some a3.1)).bind fun x17 => some (x16, x17))).bind (fun x22 => some (Rr.rt x22)) else (((((some s1)).bind fun x18 => ((some a3.2.1)).bind fun x19 => ((some a3.2.2)).bind fun x20 => put_at x18 x19 x20)).bind fun (v_order_21 : List (Int)) => (some (Rr.nx v_order_21))))) v_order l23).bind (Rr.goR fun (s1 : (List (Int))) => (((some s1)).bind fun x25 => ((((some (1 : Int))).bind fun x24 => some (-x24))).bind fun x26 => some (x25, x26))))
def outcome (v_order : List (Int)) (v_weights : List (Int)) (v_nailed : List (Int)) (v_plan : List ((Int) × (Int))) : Option ((Int) × (Int)) :=
  (((((some v_order)).bind fun x1 => ((some v_nailed)).bind fun x2 => ((some v_plan)).bind fun x3 => course x1 x2 x3)).bind fun (z4 : (List (Int)) × (Int)) => (((((some z4.2)).bind fun x5 => ((some (0 : Int))).bind fun x6 => some (decide (x6 ≤ x5)))).bind fun b7 => if b7 = true then (((some z4.2)).bind fun x8 => ((some (0 : Int))).bind fun x9 => some (x8, x9)) else (((((some z4.1)).bind fun x11 => ((((some z4.1)).bind fun x10 => sort? x10)).bind fun x12 => some (!decide (x11 = x12)))).bind fun b13 => if b13 = true then (((((some v_plan)).bind fun x14 => some (x14.length : Int))).bind fun x15 => ((some (0 : Int))).bind fun x16 => some (x15, x16)) else (((((some (1 : Int))).bind fun x17 => some (-x17))).bind fun x29 => ((((((some v_weights)).bind fun x21 => ((((some v_plan)).bind fun x19 => lc? (fun (a18 : (Int) × (Int)) => (some true)) (fun (a18 : (Int) × (Int)) => (some a18.1)) x19)).bind fun x22 => weight_of x21 x22)).bind fun x27 => ((((((some v_order)).bind fun x23 => ((some v_weights)).bind fun x24 => ((some v_nailed)).bind fun x25 => owed_by x23 x24 x25)).bind fun x26 => x26)).bind fun x28 => some (x27 - x28))).bind fun x30 => some (x29, x30)))))
def check_plan (v_plan : List ((Int) × (Int))) : Option (Unit) :=
  (((((((((some v_plan)).bind fun _ => some true)).bind fun x1 => some (!x1))).bind fun x5 => if x5 = true then some true else (((((some v_plan)).bind fun x2 => some (x2.length : Int))).bind fun x3 => ((some (60 : Int))).bind fun x4 => some (decide (x4 < x3))))).bind fun b6 => if b6 = true then none else ((((some v_plan)).bind fun l22 => forS (fun (s7 : Unit) (a8 : (Int) × (Int)) => (((((((((some a8)).bind fun _ => some true)).bind fun x9 => some (!x9))).bind fun x20 => if x20 = true then some true else (((((((some a8)).bind fun _ => some (2 : Int))).bind fun x10 => ((some (2 : Int))).bind fun x11 => some (!decide (x10 = x11)))).bind fun x19 => if x19 = true then some true else (((((((((some a8)).bind fun x12 => some x12.1)).bind fun x13 => is_whole x13)).bind fun x14 => some (!x14))).bind fun x18 => if x18 = true then some true else (((((((some a8)).bind fun x15 => some x15.2)).bind fun x16 => is_whole x16)).bind fun x17 => some (!x17)))))).bind fun b21 => if b21 = true then none else (some ()))) () l22).bind fun (s7 : Unit) => (some ())))
def _law_number (v_cell : Int) (v_at : Int) (v_whole : Int) : Option (Int) :=
  (((((some v_cell)).bind fun x3 => ((((some (10 : Int))).bind fun x1 => ((some (18 : Int))).bind fun x2 => pow? x1 x2)).bind fun x4 => some (decide (x4 ≤ x3)))).bind fun b5 => if b5 = true then (some v_cell) else (((((some v_cell)).bind fun x6 => ((some (2147483647 : Int))).bind fun x7 => fmod? x6 x7)).bind fun (v_small_8 : Int) => (((((((((((some v_small_8)).bind fun x17 => ((((some (977 : Int))).bind fun x15 => ((some v_at)).bind fun x16 => mul? x15 x16)).bind fun x18 => some (x17 + x18))).bind fun x19 => ((some (48271 : Int))).bind fun x20 => mul? x19 x20)).bind fun x23 => ((((some v_whole)).bind fun x21 => ((some (2147483647 : Int))).bind fun x22 => fmod? x21 x22)).bind fun x24 => some (x23 + x24))).bind fun x25 => ((some (2147483647 : Int))).bind fun x26 => fmod? x25 x26)).bind fun (v_mixed_27 : Int) => (((((((some v_mixed_27)).bind fun x38 => ((((((some v_mixed_27)).bind fun x34 => ((((some (31 : Int))).bind fun x32 => ((some v_at)).bind fun x33 => mul? x32 x33)).bind fun x35 => some (x34 + x35))).bind fun x36 => ((some (7 : Int))).bind fun x37 => some (x36 + x37))).bind fun x39 => mul? x38 x39)).bind fun x46 => ((((((some v_mixed_27)).bind fun x42 => ((some v_small_8)).bind fun x43 => some (x42 + x43))).bind fun x44 => ((some (5 : Int))).bind fun x45 => some (x44 + x45))).bind fun x47 => mul? x46 x47)).bind fun (v_more_48 : Int) => (((((some v_more_48)).bind fun x51 => ((((some v_more_48)).bind fun x49 => ((some (48271 : Int))).bind fun x50 => some (x49 + x50))).bind fun x52 => mul? x51 x52)).bind fun x53 => ((some (1009 : Int))).bind fun x54 => fdiv? x53 x54)))))
def _law_order (v_script : Scr) (v_by : Int) (v_most : Int) : Option (List (Int)) :=
  (((((((some v_script)).bind fun x1 => some (!decide (x1.ns = [])))).bind fun x8 => if x8 = true then (((some v_script)).bind fun x4 => ((some (63 : Int))).bind fun x5 => some (cut x4.ns none (some x5))) else (((some (5 : Int))).bind fun x6 => ((some ([] : List (Int)))).bind fun l7 => some (x6 :: l7)))).bind fun (v_cells_9 : List (Int)) => (((((((some v_cells_9)).bind fun x11 => some x11.sum)).bind fun x12 => ((some v_by)).bind fun x13 => some (x12 + x13))).bind fun (v_whole_14 : Int) => ((some ([] : List (Int)))).bind fun (v_found_15 : List (Int)) => (((((some (1 : Int))).bind fun x25 => ((((((((some v_whole_14)).bind fun x18 => ((((some v_by)).bind fun x16 => ((some (1 : Int))).bind fun x17 => some (x16 + x17))).bind fun x19 => ((some (3 : Int))).bind fun x20 => _law_number x18 x19 x20)).bind fun x21 => ((some (9 : Int))).bind fun x22 => fdiv? x21 x22)).bind fun x23 => ((some v_most)).bind fun x24 => fmod? x23 x24)).bind fun x26 => some (x25 + x26))).bind fun (v_many_36 : Int) => ((((((((some v_whole_14)).bind fun x29 => ((((some v_by)).bind fun x27 => ((some (1 : Int))).bind fun x28 => some (x27 + x28))).bind fun x30 => ((some (3 : Int))).bind fun x31 => _law_number x29 x30 x31)).bind fun x32 => ((some (216 : Int))).bind fun x33 => fdiv? x32 x33)).bind fun x34 => ((some (5 : Int))).bind fun x35 => fmod? x34 x35)).bind fun (v_kind_37 : Int) => ((((((some v_many_36)).bind fun x39 => rng? 0 x39)).bind fun l104 => forS (fun (s38 : (List (Int))) (a40 : Int) => (((((((((((some v_cells_9)).bind fun x53 => ((((((some a40)).bind fun x48 => ((some v_by)).bind fun x49 => some (x48 + x49))).bind fun x51 => ((((some v_cells_9)).bind fun x50 => some (x50.length : Int))).bind fun x52 => fmod? x51 x52)).bind fun x54 => atI x53 x54)).bind fun x57 => ((((some (5 : Int))).bind fun x55 => ((some a40)).bind fun x56 => mul? x55 x56)).bind fun x58 => some (x57 + x58))).bind fun x61 => ((((some a40)).bind fun x59 => ((some v_by)).bind fun x60 => some (x59 + x60))).bind fun x62 => ((some v_whole_14)).bind fun x63 => _law_number x61 x62 x63)).bind fun x64 => ((some (3 : Int))).bind fun x65 => fdiv? x64 x65)).bind fun (v_number_here_66 : Int) => (((((((((((some v_number_here_66)).bind fun x79 => ((((some a40)).bind fun x77 => ((some (1 : Int))).bind fun x78 => some (x77 + x78))).bind fun x80 => fmod? x79 x80)).bind fun x95 => ((((((some v_number_here_66)).bind fun x81 => ((some (2 : Int))).bind fun x82 => fmod? x81 x82)).bind fun x93 => ((((some a40)).bind fun x91 => ((((((((some v_number_here_66)).bind fun x83 => ((some (2 : Int))).bind fun x84 => fmod? x83 x84)).bind fun x85 => ((some a40)).bind fun x86 => mul? x85 x86)).bind fun x89 => ((((some a40)).bind fun x87 => ((some ([] : List (Int)))).bind fun l88 => some (x87 :: l88))).bind fun l90 => some (x89 :: l90))).bind fun l92 => some (x91 :: l92))).bind fun l94 => some (x93 :: l94))).bind fun l96 => some (x95 :: l96))).bind fun x97 => some (Tu.mk x97))).bind fun x98 => ((some v_kind_37)).bind fun x99 => atI x98.xs x99)).bind fun (v_spot_100 : Int) => (((some v_spot_100)).bind fun x102 => ((some a40)).bind fun x103 => (ins? s38 x102 x103).bind fun (v_found_101 : List (Int)) => (some v_found_101))))) v_found_15 l104).bind fun (s38 : (List (Int))) => ((((((((some v_kind_37)).bind fun x105 => ((some (2 : Int))).bind fun x106 => some (decide (x105 = x106)))).bind fun x109 => if x109 = true then some true else (((some v_kind_37)).bind fun x107 => ((some (4 : Int))).bind fun x108 => some (decide (x107 = x108))))).bind fun b110 => if b110 = true then ((((((((some v_many_36)).bind fun x112 => ((some (4 : Int))).bind fun x113 => fdiv? x112 x113)).bind fun x114 => rng? 0 x114)).bind fun l143 => forS (fun (s111 : (List (Int))) (a115 : Int) => (((((((((((some v_cells_9)).bind fun x124 => ((((some a115)).bind fun x122 => ((((some v_cells_9)).bind fun x121 => some (x121.length : Int))).bind fun x123 => fmod? x122 x123)).bind fun x125 => atI x124 x125)).bind fun x126 => ((some (9 : Int))).bind fun x127 => some (x126 + x127))).bind fun x128 => ((some a115)).bind fun x129 => ((some v_whole_14)).bind fun x130 => _law_number x128 x129 x130)).bind fun x131 => ((some (3 : Int))).bind fun x132 => fdiv? x131 x132)).bind fun (v_number_here_133 : Int) => (((((((some v_number_here_133)).bind fun x135 => ((some (24 : Int))).bind fun x136 => fdiv? x135 x136)).bind fun x137 => ((some v_many_36)).bind fun x138 => fmod? x137 x138)).bind fun x139 => ((((some v_number_here_133)).bind fun x141 => ((some v_many_36)).bind fun x142 => fmod? x141 x142)).bind fun x140 => (move? s111 x139 x140).bind fun (v_found_134 : List (Int)) => (some v_found_134)))) s38 l143).bind fun (s111 : (List (Int))) => (some s111)) else (some s38) : Option ((List (Int)))).bind fun s144 => (((((((some v_kind_37)).bind fun x145 => ((some (4 : Int))).bind fun x146 => some (decide (x145 = x146)))).bind fun x155 => if x155 = true then (((((some v_whole_14)).bind fun x151 => ((some (5 : Int))).bind fun x152 => fdiv? x151 x152)).bind fun x153 => ((some v_many_36)).bind fun x154 => fmod? x153 x154) else (some (0 : Int)))).bind fun (v_shift_156 : Int) => (((((some s144)).bind fun x158 => ((((some v_shift_156)).bind fun x157 => some (some x157))).bind fun x159 => ((some (none : Option Int))).bind fun x160 => some (cut x158 x159 x160))).bind fun x165 => ((((some s144)).bind fun x162 => ((some (none : Option Int))).bind fun x163 => ((((some v_shift_156)).bind fun x161 => some (some x161))).bind fun x164 => some (cut x162 x163 x164))).bind fun x166 => cat? x165 x166)))))))
def _law_weights (v_script : Scr) (v_by : Int) (v_many : Int) : Option (List (Int)) :=
  (((((((some v_script)).bind fun x1 => some (!decide (x1.ns = [])))).bind fun x8 => if x8 = true then (((some v_script)).bind fun x4 => ((some (63 : Int))).bind fun x5 => some (cut x4.ns none (some x5))) else (((some (5 : Int))).bind fun x6 => ((some ([] : List (Int)))).bind fun l7 => some (x6 :: l7)))).bind fun (v_cells_9 : List (Int)) => (((((((some v_cells_9)).bind fun x11 => some x11.sum)).bind fun x12 => ((some v_by)).bind fun x13 => some (x12 + x13))).bind fun (v_whole_14 : Int) => ((some ([] : List (Int)))).bind fun (v_found_15 : List (Int)) => (((((((((some v_whole_14)).bind fun x18 => ((((some v_by)).bind fun x16 => ((some (1 : Int))).bind fun x17 => some (x16 + x17))).bind fun x19 => ((some (3 : Int))).bind fun x20 => _law_number x18 x19 x20)).bind fun x21 => ((some (1080 : Int))).bind fun x22 => fdiv? x21 x22)).bind fun x23 => ((some (3 : Int))).bind fun x24 => fmod? x23 x24)).bind fun (v_kind_25 : Int) => ((((((some v_many)).bind fun x27 => rng? 0 x27)).bind fun l96 => forS (fun (s26 : (List (Int))) (a28 : Int) => (((((((((((some v_cells_9)).bind fun x41 => ((((((some a28)).bind fun x36 => ((some v_by)).bind fun x37 => some (x36 + x37))).bind fun x39 => ((((some v_cells_9)).bind fun x38 => some (x38.length : Int))).bind fun x40 => fmod? x39 x40)).bind fun x42 => atI x41 x42)).bind fun x45 => ((((some (3 : Int))).bind fun x43 => ((some a28)).bind fun x44 => mul? x43 x44)).bind fun x46 => some (x45 + x46))).bind fun x49 => ((((some a28)).bind fun x47 => ((some v_by)).bind fun x48 => some (x47 + x48))).bind fun x50 => ((some v_whole_14)).bind fun x51 => _law_number x49 x50 x51)).bind fun x52 => ((some (7 : Int))).bind fun x53 => fdiv? x52 x53)).bind fun (v_number_here_54 : Int) => (((((((((((some (1 : Int))).bind fun x73 => ((((some v_number_here_54)).bind fun x71 => ((some (9 : Int))).bind fun x72 => fmod? x71 x72)).bind fun x74 => some (x73 + x74))).bind fun x90 => ((((((some (1 : Int))).bind fun x77 => ((((some v_whole_14)).bind fun x75 => ((some (9 : Int))).bind fun x76 => fmod? x75 x76)).bind fun x78 => some (x77 + x78))).bind fun x88 => ((((((((((some v_number_here_54)).bind fun x81 => ((some (5 : Int))).bind fun x82 => fmod? x81 x82)).bind fun x83 => ((some (0 : Int))).bind fun x84 => some (decide (x83 = x84)))).bind fun x85 => if x85 = true then (some (9 : Int)) else (some (1 : Int)))).bind fun x86 => ((some ([] : List (Int)))).bind fun l87 => some (x86 :: l87))).bind fun l89 => some (x88 :: l89))).bind fun l91 => some (x90 :: l91))).bind fun x92 => some (Tu.mk x92))).bind fun x93 => ((some v_kind_25)).bind fun x94 => atI x93.xs x94)).bind fun x95 => (app? s26 x95).bind fun (v_found_55 : List (Int)) => (some v_found_55)))) v_found_15 l96).bind fun (s26 : (List (Int))) => (some s26)))))
def mk_Least (v_stay : List (Int)) (v_rows : List ((List (Int)) × (Int))) : Option Ans :=
  (((((some v_stay)).bind fun x1 => some x1)).bind fun (f_stay : List (Int)) => (((((some v_rows)).bind fun x7 => lc? (fun (a3 : (List (Int)) × (Int)) => (some true)) (fun (a3 : (List (Int)) × (Int)) => (((((some a3.1)).bind fun x4 => some x4)).bind fun x5 => ((some a3.2)).bind fun x6 => some (x5, x6))) x7)).bind fun (f_rows : List ((List (Int)) × (Int))) => some (Ans.least f_stay f_rows)))
def mk_Stuck (v_one : Int) (v_other : Int) : Option Ans :=
  (((some v_one)).bind fun (f_one : Int) => (((some v_other)).bind fun (f_other : Int) => some (Ans.stuck f_one f_other)))
def mk_Dear (v_more : Int) : Option Ans :=
  (((some v_more)).bind fun (f_more : Int) => some (Ans.dear f_more))
def mk_Wrong (v_step : Int) : Option Ans :=
  (((some v_step)).bind fun (f_step : Int) => some (Ans.wrong f_step))
def mk_Round (v_stay : List (Int)) (v_papers : List (List ((List (Int)) × (Int)))) : Option Ans :=
  (((((some v_stay)).bind fun x1 => some x1)).bind fun (f_stay : List (Int)) => (((((some v_papers)).bind fun x10 => lc? (fun (a3 : List ((List (Int)) × (Int))) => (some true)) (fun (a3 : List ((List (Int)) × (Int))) => (((some a3)).bind fun x8 => lc? (fun (a4 : (List (Int)) × (Int)) => (some true)) (fun (a4 : (List (Int)) × (Int)) => (((((some a4.1)).bind fun x5 => some x5)).bind fun x6 => ((some a4.2)).bind fun x7 => some (x6, x7))) x8)) x10)).bind fun (f_papers : List (List ((List (Int)) × (Int)))) => some (Ans.round f_stay f_papers)))
def mk_Shelf (v_order : List (Int)) (v_weights : List (Int)) (v_nailed : List (Int)) : Option Shf :=
  (((((some v_order)).bind fun x1 => ((some v_weights)).bind fun x2 => ((some (24 : Int))).bind fun x3 => check_all x1 x2 x3)).bind fun _ => (((((((some v_order)).bind fun x4 => some (x4.length : Int))).bind fun x5 => ((some v_nailed)).bind fun x6 => check_nailed x5 x6)).bind fun _ => (((((some v_order)).bind fun x7 => some x7)).bind fun (f_books : List (Int)) => (((((some v_weights)).bind fun x9 => some x9)).bind fun (f_weights : List (Int)) => (((((some v_nailed)).bind fun x11 => some x11)).bind fun (f_nailed : List (Int)) => (((some (0 : Int))).bind fun (f_paid : Int) => (((some ([] : List ((Int) × (Int))))).bind fun (f_done : List ((Int) × (Int))) => some (Shf.mk f_books f_weights f_nailed f_paid f_done))))))))
def least (v_order : List (Int)) (v_weights : List (Int)) (v_nailed : List (Int)) : Option (Ans) :=
  (((((some v_order)).bind fun x1 => ((some v_weights)).bind fun x2 => ((some v_nailed)).bind fun x3 => check_three x1 x2 x3)).bind fun x36 => (((((some v_order)).bind fun x4 => ((some v_nailed)).bind fun x5 => clash x4 x5)).bind fun (v_wrong_6 : Option ((Int) × (Int))) => (((((some v_wrong_6)).bind fun x7 => some (!x7.isNone))).bind fun b8 => if b8 = true then (((((((some v_wrong_6)).bind fun x9 => x9)).bind fun x10 => some x10.1)).bind fun x13 => ((((((some v_wrong_6)).bind fun x11 => x11)).bind fun x12 => some x12.2)).bind fun x14 => mk_Stuck x13 x14) else (((((some v_order)).bind fun x21 => ((some v_nailed)).bind fun x22 => free_ones x21 x22)).bind fun (v_free_23 : List (Int)) => (((((some v_free_23)).bind fun x24 => ((some v_weights)).bind fun x25 => staying x24 x25)).bind fun x28 => ((((some v_free_23)).bind fun x26 => ((some v_weights)).bind fun x27 => paper x26 x27)).bind fun x29 => mk_Least x28 x29)))))
def takings (v_order : List (Int)) (v_weights : List (Int)) (v_nailed : List (Int)) : Option (Option (List ((Int) × (Int)))) :=
  (((((some v_order)).bind fun x1 => ((some v_weights)).bind fun x2 => ((some v_nailed)).bind fun x3 => check_three x1 x2 x3)).bind fun x43 => (((((((some v_order)).bind fun x4 => ((some v_nailed)).bind fun x5 => clash x4 x5)).bind fun x6 => some (!x6.isNone))).bind fun b7 => if b7 = true then (some (none : Option (List ((Int) × (Int))))) else (((((((some v_order)).bind fun x8 => ((some v_nailed)).bind fun x9 => free_ones x8 x9)).bind fun x10 => ((some v_weights)).bind fun x11 => staying x10 x11)).bind fun (v_settled_13 : List (Int)) => ((((some v_order)).bind fun x12 => some x12)).bind fun (v_here_14 : List (Int)) => ((some ([] : List ((Int) × (Int))))).bind fun (v_found_15 : List ((Int) × (Int))) => ((((((((some v_order)).bind fun x17 => some (x17.length : Int))).bind fun x18 => rng? 0 x18)).bind fun l41 => forS (fun (s16 : (List (Int)) × (List (Int)) × (List ((Int) × (Int)))) (a19 : Int) => ((((((some a19)).bind fun x20 => ((some s16.1)).bind fun x21 => some (!decide (x20 ∈ x21)))).bind fun b22 => if b22 = true then (((((some s16.2.1)).bind fun x23 => ((some a19)).bind fun x24 => ((some s16.1)).bind fun x25 => place_among x23 x24 x25)).bind fun (v_place_26 : Int) => (((((some a19)).bind fun x28 => ((some v_place_26)).bind fun x29 => some (x28, x29))).bind fun x30 => (app? s16.2.2 x30).bind fun (v_found_27 : List ((Int) × (Int))) => (((((some s16.2.1)).bind fun x31 => ((some a19)).bind fun x32 => ((some v_place_26)).bind fun x33 => put_at x31 x32 x33)).bind fun (v_here_34 : List (Int)) => (((((some s16.1)).bind fun x37 => ((((some a19)).bind fun x35 => ((some ([] : List (Int)))).bind fun l36 => some (x35 :: l36))).bind fun x38 => cat? x37 x38)).bind fun (v_settled_39 : List (Int)) => (some (v_settled_39, v_here_34, v_found_27)))))) else (some (s16.1, s16.2.1, s16.2.2)) : Option ((List (Int)) × (List (Int)) × (List ((Int) × (Int))))).bind fun s40 => (some (s40.1, s40.2.1, s40.2.2)))) (v_settled_13, v_here_14, v_found_15) l41).bind fun (s16 : (List (Int)) × (List (Int)) × (List ((Int) × (Int)))) => (((some s16.2.2)).bind fun x42 => some (some x42))))))
def judged (v_order : List (Int)) (v_weights : List (Int)) (v_nailed : List (Int)) (v_plan : List ((Int) × (Int))) : Option (Ans) :=
  (((((some v_order)).bind fun x1 => ((some v_weights)).bind fun x2 => ((some v_nailed)).bind fun x3 => check_three x1 x2 x3)).bind fun x23 => (((((some v_plan)).bind fun x4 => check_plan x4)).bind fun x22 => (((((some v_order)).bind fun x5 => ((some v_weights)).bind fun x6 => ((some v_nailed)).bind fun x7 => ((some v_plan)).bind fun x8 => outcome x5 x6 x7 x8)).bind fun (z9 : (Int) × (Int)) => (((((some z9.1)).bind fun x10 => ((some (0 : Int))).bind fun x11 => some (decide (x11 ≤ x10)))).bind fun b12 => if b12 = true then (((some z9.1)).bind fun x13 => mk_Wrong x13) else (((((some z9.2)).bind fun x15 => ((some (0 : Int))).bind fun x16 => some (decide (x16 < x15)))).bind fun x18 => if x18 = true then (((some z9.2)).bind fun x17 => mk_Dear x17) else (some Ans.thrifty))))))
def round_least (v_order : List (Int)) (v_weights : List (Int)) : Option (Ans) :=
  (((((some v_order)).bind fun x1 => ((some v_weights)).bind fun x2 => ((some (10 : Int))).bind fun x3 => check_all x1 x2 x3)).bind fun x68 => (((((some v_order)).bind fun x4 => ((some v_weights)).bind fun x5 => round_stays x4 x5)).bind fun (v_stays_7 : List (List (Int))) => ((some ([] : List (List ((List (Int)) × (Int)))))).bind fun (v_papers_8 : List (List ((List (Int)) × (Int)))) => ((((some v_order)).bind fun x6 => some (x6.length : Int))).bind fun (v_many_9 : Int) => ((((((some v_many_9)).bind fun x11 => rng? 0 x11)).bind fun l34 => forS (fun (s10 : (List (List ((List (Int)) × (Int))))) (a12 : Int) => (((((((some v_order)).bind fun x13 => ((some a12)).bind fun x14 => read_from x13 x14)).bind fun x17 => ((((some v_weights)).bind fun x15 => ((some a12)).bind fun x16 => weights_from x15 x16)).bind fun x18 => paper x17 x18)).bind fun (v_rows_19 : List ((List (Int)) × (Int))) => (((((some v_rows_19)).bind fun x31 => lc? (fun (a21 : (List (Int)) × (Int)) => (some true)) (fun (a21 : (List (Int)) × (Int)) => (((((some a21.1)).bind fun x27 => lc? (fun (a22 : Int) => (some true)) (fun (a22 : Int) => (((((some a22)).bind fun x23 => ((some a12)).bind fun x24 => some (x23 + x24))).bind fun x25 => ((some v_many_9)).bind fun x26 => fmod? x25 x26)) x27)).bind fun x29 => ((some a21.2)).bind fun x30 => some (x29, x30))) x31)).bind fun x33 => (app? s10 x33).bind fun (v_papers_20 : List (List ((List (Int)) × (Int)))) => (some v_papers_20)))) v_papers_8 l34).bind fun (s10 : (List (List ((List (Int)) × (Int))))) => (((((((some v_stays_7)).bind fun x38 => lc? (fun (a35 : List (Int)) => (some true)) (fun (a35 : List (Int)) => (((some v_weights)).bind fun x36 => ((some a35)).bind fun x37 => weight_of x36 x37)) x38)).bind fun x40 => maxL x40)).bind fun (v_best_41 : Int) => (((((((some v_stays_7)).bind fun x49 => lc? (fun (a42 : List (Int)) => (((((some v_weights)).bind fun x45 => ((some a42)).bind fun x46 => weight_of x45 x46)).bind fun x47 => ((some v_best_41)).bind fun x48 => some (decide (x47 = x48)))) (fun (a42 : List (Int)) => (some a42)) x49)).bind fun x51 => ((some (0 : Int))).bind fun x52 => atI x51 x52)).bind fun x53 => ((some s10)).bind fun x54 => mk_Round x53 x54)))))
def Thrifty_shows (v_self : Ans) (v_order : List (Int)) (v_weights : List (Int)) (v_nailed : List (Int)) (v_plan : List ((Int) × (Int))) : Option (Bool) :=
  (((((some v_order)).bind fun x5 => ((some v_weights)).bind fun x6 => ((some v_nailed)).bind fun x7 => ((some v_plan)).bind fun x8 => outcome x5 x6 x7 x8)).bind fun x12 => ((((((some (1 : Int))).bind fun x9 => some (-x9))).bind fun x10 => ((some (0 : Int))).bind fun x11 => some (x10, x11))).bind fun x13 => some (decide (x12 = x13)))
def Dear_shows (v_self : Ans) (v_order : List (Int)) (v_weights : List (Int)) (v_nailed : List (Int)) (v_plan : List ((Int) × (Int))) : Option (Bool) :=
  (((((((some v_self)).bind fun x1 => Ans.more? x1)).bind fun x2 => ((some (0 : Int))).bind fun x3 => some (decide (x3 < x2)))).bind fun x18 => if x18 = true then (((((some v_order)).bind fun x8 => ((some v_weights)).bind fun x9 => ((some v_nailed)).bind fun x10 => ((some v_plan)).bind fun x11 => outcome x8 x9 x10 x11)).bind fun x16 => ((((((some (1 : Int))).bind fun x12 => some (-x12))).bind fun x14 => ((((some v_self)).bind fun x13 => Ans.more? x13)).bind fun x15 => some (x14, x15))).bind fun x17 => some (decide (x16 = x17))) else some false)
def Wrong_shows (v_self : Ans) (v_order : List (Int)) (v_weights : List (Int)) (v_nailed : List (Int)) (v_plan : List ((Int) × (Int))) : Option (Bool) :=
  (((((((some v_self)).bind fun x1 => Ans.step? x1)).bind fun x2 => ((some (0 : Int))).bind fun x3 => some (decide (x3 ≤ x2)))).bind fun x17 => if x17 = true then (((((((some v_order)).bind fun x9 => ((some v_weights)).bind fun x10 => ((some v_nailed)).bind fun x11 => ((some v_plan)).bind fun x12 => outcome x9 x10 x11 x12)).bind fun x13 => some x13.1)).bind fun x15 => ((((some v_self)).bind fun x14 => Ans.step? x14)).bind fun x16 => some (decide (x15 = x16))) else some false)
def ms_shows_4 (c : Nat) : (Ans) → (List (Int)) → (List (Int)) → (List (Int)) → (List ((Int) × (Int))) → Option (Bool) :=
  if c = 2 then Thrifty_shows else if c = 3 then Dear_shows else Wrong_shows
def Shelf_owed (v_self : Shf) : Option (Option (Int)) :=
  (((((some v_self)).bind fun x1 => some x1.books)).bind fun x4 => ((((some v_self)).bind fun x2 => some x2.weights)).bind fun x5 => ((((some v_self)).bind fun x3 => some x3.nailed)).bind fun x6 => owed_by x4 x5 x6)
def ms_owed_0 (c : Nat) : (Shf) → Option (Option (Int)) :=
  Shelf_owed
def _law_nailed (v_script : Scr) (v_by : Int) (v_many : Int) : Option (List (Int)) :=
  (((((((some v_script)).bind fun x1 => some (!decide (x1.ns = [])))).bind fun x8 => if x8 = true then (((some v_script)).bind fun x4 => ((some (63 : Int))).bind fun x5 => some (cut x4.ns none (some x5))) else (((some (5 : Int))).bind fun x6 => ((some ([] : List (Int)))).bind fun l7 => some (x6 :: l7)))).bind fun (v_cells_9 : List (Int)) => (((((((some v_cells_9)).bind fun x11 => some x11.sum)).bind fun x12 => ((some v_by)).bind fun x13 => some (x12 + x13))).bind fun (v_whole_14 : Int) => (((((((((some v_whole_14)).bind fun x17 => ((((some v_by)).bind fun x15 => ((some (1 : Int))).bind fun x16 => some (x15 + x16))).bind fun x18 => ((some (3 : Int))).bind fun x19 => _law_number x17 x18 x19)).bind fun x20 => ((some (3240 : Int))).bind fun x21 => fdiv? x20 x21)).bind fun x22 => ((some (4 : Int))).bind fun x23 => fmod? x22 x23)).bind fun (v_kind_24 : Int) => (((((((((((((some (0 : Int))).bind fun x31 => ((((some (1 : Int))).bind fun x29 => ((((some (2 : Int))).bind fun x27 => ((((some (4 : Int))).bind fun x25 => ((some ([] : List (Int)))).bind fun l26 => some (x25 :: l26))).bind fun l28 => some (x27 :: l28))).bind fun l30 => some (x29 :: l30))).bind fun l32 => some (x31 :: l32))).bind fun x33 => some (Tu.mk x33))).bind fun x34 => ((some v_kind_24)).bind fun x35 => atI x34.xs x35)).bind fun x36 => rng? 0 x36)).bind fun x59 => lc? (fun (a37 : Int) => (some true)) (fun (a37 : Int) => (((((((((((some v_cells_9)).bind fun x46 => ((((some a37)).bind fun x44 => ((((some v_cells_9)).bind fun x43 => some (x43.length : Int))).bind fun x45 => fmod? x44 x45)).bind fun x47 => atI x46 x47)).bind fun x48 => ((some a37)).bind fun x49 => some (x48 + x49))).bind fun x52 => ((((some a37)).bind fun x50 => ((some (7 : Int))).bind fun x51 => some (x50 + x51))).bind fun x53 => ((some v_whole_14)).bind fun x54 => _law_number x52 x53 x54)).bind fun x55 => ((some (3 : Int))).bind fun x56 => fdiv? x55 x56)).bind fun x57 => ((some v_many)).bind fun x58 => fmod? x57 x58)) x59)).bind fun (v_found_61 : List (Int)) => (((some v_found_61)).bind fun x62 => sset? x62)))))
def _law_right_two (v_order_here : List (Int)) (v_one : Int) (v_other : Int) : Option (Bool) :=
  (((((some v_one)).bind fun x1 => ((some v_other)).bind fun x2 => some (decide (x1 = x2)))).bind fun x19 => if x19 = true then some true else (((((((some v_order_here)).bind fun x9 => ((some v_one)).bind fun x10 => idx? x9 x10)).bind fun x13 => ((((some v_order_here)).bind fun x11 => ((some v_other)).bind fun x12 => idx? x11 x12)).bind fun x14 => some (decide (x13 < x14)))).bind fun x17 => ((((some v_one)).bind fun x15 => ((some v_other)).bind fun x16 => some (decide (x15 < x16)))).bind fun x18 => some (decide (x17 = x18))))
def _law_clash (v_order_here : List (Int)) (v_nailed_here : List (Int)) : Option (Bool) :=
  ((((some v_nailed_here)).bind fun l13 => forB (β := Bool) (fun (s1 : Unit) (a2 : Int) => (((((((((some v_nailed_here)).bind fun x7 => lc? (fun (a3 : Int) => (some true)) (fun (a3 : Int) => (((some v_order_here)).bind fun x4 => ((some a2)).bind fun x5 => ((some a3)).bind fun x6 => _law_right_two x4 x5 x6)) x7)).bind fun x9 => some (x9.all id))).bind fun x10 => some (!x10))).bind fun b11 => if b11 = true then ((some true)).bind (fun x12 => some (Rr.rt x12)) else (some (Rr.nx ())))) () l13).bind (Rr.goR fun (s1 : Unit) => (some false)))
def _law_free (v_order_here : List (Int)) (v_nailed_here : List (Int)) : Option (List (Int)) :=
  (((some v_order_here)).bind fun x9 => lc? (fun (a1 : Int) => (((((some v_nailed_here)).bind fun x6 => lc? (fun (a2 : Int) => (some true)) (fun (a2 : Int) => (((some v_order_here)).bind fun x3 => ((some a1)).bind fun x4 => ((some a2)).bind fun x5 => _law_right_two x3 x4 x5)) x6)).bind fun x8 => some (x8.all id))) (fun (a1 : Int) => (some a1)) x9)
def _law_tall (v_order_here : List (Int)) (v_weights_here : List (Int)) : Option (Int) :=
  (((some ([] : List (Int)))).bind fun (v_found_1 : List (Int)) => ((((((some v_order_here)).bind fun x3 => some (enumL x3))).bind fun l27 => forS (fun (s2 : (List (Int))) (a4 : (Int) × (Int)) => (((((((some v_weights_here)).bind fun x8 => ((some a4.2)).bind fun x9 => atI x8 x9)).bind fun x24 => ((((((((some (0 : Int))).bind fun x10 => ((some ([] : List (Int)))).bind fun l11 => some (x10 :: l11))).bind fun x21 => ((((((some a4.1)).bind fun x12 => rng? 0 x12)).bind fun x19 => lc? (fun (a13 : Int) => (((((some v_order_here)).bind fun x14 => ((some a13)).bind fun x15 => atI x14 x15)).bind fun x16 => ((some a4.2)).bind fun x17 => some (decide (x16 < x17)))) (fun (a13 : Int) => (((some a13)).bind fun x18 => atI s2 x18)) x19)).bind fun x22 => cat? x21 x22)).bind fun x23 => maxL x23)).bind fun x25 => some (x24 + x25))).bind fun x26 => (app? s2 x26).bind fun (v_found_5 : List (Int)) => (some v_found_5))) v_found_1 l27).bind fun (s2 : (List (Int))) => (((((((some (0 : Int))).bind fun x28 => ((some ([] : List (Int)))).bind fun l29 => some (x28 :: l29))).bind fun x30 => ((some s2)).bind fun x31 => cat? x30 x31)).bind fun x32 => maxL x32)))
def _law_owed (v_order_here : List (Int)) (v_weights_here : List (Int)) (v_nailed_here : List (Int)) : Option (Int) :=
  (((((some v_order_here)).bind fun x1 => ((some v_nailed_here)).bind fun x2 => _law_clash x1 x2)).bind fun b3 => if b3 = true then (((some (1 : Int))).bind fun x4 => some (-x4)) else (((((some v_weights_here)).bind fun x5 => some x5.sum)).bind fun x10 => ((((((some v_order_here)).bind fun x6 => ((some v_nailed_here)).bind fun x7 => _law_free x6 x7)).bind fun x8 => ((some v_weights_here)).bind fun x9 => _law_tall x8 x9)).bind fun x11 => some (x10 - x11)))
def _law_says (v_said : Bool) (v_due : Bool) : Option (Bool) :=
  (((((some v_said)).bind fun _ => some true)).bind fun x3 => if x3 = true then (((some v_said)).bind fun x1 => ((some v_due)).bind fun x2 => some (decide (x1 = x2))) else some false)
def _law_outcome (v_order_here : List (Int)) (v_weights_here : List (Int)) (v_nailed_here : List (Int)) (v_plan : List ((Int) × (Int))) : Option ((Int) × (Int)) :=
  (((((some v_order_here)).bind fun x1 => some x1)).bind fun (v_here_2 : List (Int)) => ((some (0 : Int))).bind fun (v_cost_3 : Int) => ((((((some v_plan)).bind fun x5 => some (enumL x5))).bind fun l60 => forB (β := (Int) × (Int)) (fun (s4 : (List (Int)) × (Int)) (a6 : (Int) × ((Int) × (Int))) => (((((((some a6.2.1)).bind fun x7 => ((some s4.1)).bind fun x8 => some (!decide (x7 ∈ x8)))).bind fun x17 => if x17 = true then some true else (((((some a6.2.1)).bind fun x9 => ((some v_nailed_here)).bind fun x10 => some (decide (x9 ∈ x10)))).bind fun x16 => if x16 = true then some true else (((((some (0 : Int))).bind fun x12 => ((some a6.2.2)).bind fun x13 => if decide (x12 ≤ x13) = true then ((((some s4.1)).bind fun x11 => some (x11.length : Int))).bind fun x14 => some (decide (x13 < x14)) else some false)).bind fun x15 => some (!x15))))).bind fun b18 => if b18 = true then ((((some a6.1)).bind fun x19 => ((some (0 : Int))).bind fun x20 => some (x19, x20))).bind (fun x59 => some (Rr.rt x59)) else (((((some s4.1)).bind fun x24 => lc? (fun (a21 : Int) => (((some a21)).bind fun x22 => ((some a6.2.1)).bind fun x23 => some (!decide (x22 = x23)))) (fun (a21 : Int) => (some a21)) x24)).bind fun (v_rest_26 : List (Int)) => (((((((((some v_rest_26)).bind fun x40 => ((some (none : Option Int))).bind fun x41 => ((((some a6.2.2)).bind fun x39 => some (some x39))).bind fun x42 => some (cut x40 x41 x42))).bind fun x45 => ((((some a6.2.1)).bind fun x43 => ((some ([] : List (Int)))).bind fun l44 => some (x43 :: l44))).bind fun x46 => cat? x45 x46)).bind fun x51 => ((((some v_rest_26)).bind fun x48 => ((((some a6.2.2)).bind fun x47 => some (some x47))).bind fun x49 => ((some (none : Option Int))).bind fun x50 => some (cut x48 x49 x50))).bind fun x52 => cat? x51 x52)).bind fun (v_here_53 : List (Int)) => (((((some s4.2)).bind fun x56 => ((((some v_weights_here)).bind fun x54 => ((some a6.2.1)).bind fun x55 => atI x54 x55)).bind fun x57 => some (x56 + x57))).bind fun (v_cost_58 : Int) => (some (Rr.nx (v_here_53, v_cost_58)))))))) (v_here_2, v_cost_3) l60).bind (Rr.goR fun (s4 : (List (Int)) × (Int)) => (((((some s4.1)).bind fun x62 => ((((some s4.1)).bind fun x61 => sort? x61)).bind fun x63 => some (decide (x62 = x63)))).bind fun x70 => if x70 = true then (((((some (1 : Int))).bind fun x64 => some (-x64))).bind fun x65 => ((some s4.2)).bind fun x66 => some (x65, x66)) else (((((some v_plan)).bind fun x67 => some (x67.length : Int))).bind fun x68 => ((some (0 : Int))).bind fun x69 => some (x68, x69))))))
def _law_plans (v_script : Scr) (v_by : Int) (v_order_here : List (Int)) (v_weights_here : List (Int)) (v_nailed_here : List (Int)) (v_told : List ((Int) × (Int))) : Option (List (List ((Int) × (Int)))) :=
  (((((((some v_script)).bind fun x1 => some (!decide (x1.ns = [])))).bind fun x8 => if x8 = true then (((some v_script)).bind fun x4 => ((some (63 : Int))).bind fun x5 => some (cut x4.ns none (some x5))) else (((some (5 : Int))).bind fun x6 => ((some ([] : List (Int)))).bind fun l7 => some (x6 :: l7)))).bind fun (v_cells_9 : List (Int)) => (((((((some v_cells_9)).bind fun x11 => some x11.sum)).bind fun x12 => ((some v_by)).bind fun x13 => some (x12 + x13))).bind fun (v_whole_15 : Int) => ((((some v_order_here)).bind fun x14 => some (x14.length : Int))).bind fun (v_many_16 : Int) => ((some ([] : List ((Int) × (Int))))).bind fun (v_drawn_17 : List ((Int) × (Int))) => ((((((((some v_whole_15)).bind fun x19 => ((some (9 : Int))).bind fun x20 => fmod? x19 x20)).bind fun x21 => rng? 0 x21)).bind fun l57 => forS (fun (s18 : (List ((Int) × (Int)))) (a22 : Int) => (((((((((((some v_cells_9)).bind fun x35 => ((((((some a22)).bind fun x30 => ((some v_by)).bind fun x31 => some (x30 + x31))).bind fun x33 => ((((some v_cells_9)).bind fun x32 => some (x32.length : Int))).bind fun x34 => fmod? x33 x34)).bind fun x36 => atI x35 x36)).bind fun x37 => ((some a22)).bind fun x38 => some (x37 + x38))).bind fun x41 => ((((some a22)).bind fun x39 => ((some v_by)).bind fun x40 => some (x39 + x40))).bind fun x42 => ((some v_whole_15)).bind fun x43 => _law_number x41 x42 x43)).bind fun x44 => ((some (3 : Int))).bind fun x45 => fdiv? x44 x45)).bind fun (v_number_here_46 : Int) => (((((((some v_number_here_46)).bind fun x48 => ((some v_many_16)).bind fun x49 => fmod? x48 x49)).bind fun x54 => ((((((some v_number_here_46)).bind fun x50 => ((some (24 : Int))).bind fun x51 => fdiv? x50 x51)).bind fun x52 => ((some v_many_16)).bind fun x53 => fmod? x52 x53)).bind fun x55 => some (x54, x55))).bind fun x56 => (app? s18 x56).bind fun (v_drawn_47 : List ((Int) × (Int))) => (some v_drawn_47)))) v_drawn_17 l57).bind fun (s18 : (List ((Int) × (Int)))) => (((((some v_told)).bind fun x95 => ((((some ([] : List ((Int) × (Int))))).bind fun x93 => ((((some s18)).bind fun x91 => ((((((some s18)).bind fun x58 => ((some v_told)).bind fun x59 => cat? x58 x59)).bind fun x89 => ((((((some v_told)).bind fun x65 => ((((some v_told)).bind fun x62 => ((((((some (1 : Int))).bind fun x60 => some (-x60))).bind fun x61 => some (some x61))).bind fun x63 => ((some (none : Option Int))).bind fun x64 => some (cut x62 x63 x64))).bind fun x66 => cat? x65 x66)).bind fun x87 => ((((((some v_told)).bind fun x71 => ((((((some (0 : Int))).bind fun x67 => ((some (0 : Int))).bind fun x68 => some (x67, x68))).bind fun x69 => ((some ([] : List ((Int) × (Int))))).bind fun l70 => some (x69 :: l70))).bind fun x72 => cat? x71 x72)).bind fun x85 => ((((((((((((some v_many_16)).bind fun x73 => ((some (1 : Int))).bind fun x74 => some (x73 - x74))).bind fun x77 => ((((some v_many_16)).bind fun x75 => ((some (1 : Int))).bind fun x76 => some (x75 - x76))).bind fun x78 => some (x77, x78))).bind fun x79 => ((some ([] : List ((Int) × (Int))))).bind fun l80 => some (x79 :: l80))).bind fun x81 => ((some v_told)).bind fun x82 => cat? x81 x82)).bind fun x83 => ((some ([] : List (List ((Int) × (Int)))))).bind fun l84 => some (x83 :: l84))).bind fun l86 => some (x85 :: l86))).bind fun l88 => some (x87 :: l88))).bind fun l90 => some (x89 :: l90))).bind fun l92 => some (x91 :: l92))).bind fun l94 => some (x93 :: l94))).bind fun l96 => some (x95 :: l96))).bind fun (v_found_97 : List (List ((Int) × (Int)))) => ((((((((((((((some v_whole_15)).bind fun x106 => ((some (9 : Int))).bind fun x107 => fdiv? x106 x107)).bind fun x111 => ((((some (1 : Int))).bind fun x109 => ((((some v_told)).bind fun x108 => some (x108.length : Int))).bind fun x110 => some (if x110 > x109 then x110 else x109))).bind fun x112 => fmod? x111 x112)).bind fun x118 => ((((((((some v_told)).bind fun x113 => some (x113.length : Int))).bind fun x114 => ((some (1 : Int))).bind fun x115 => some (x114 - x115))).bind fun x116 => ((some ([] : List (Int)))).bind fun l117 => some (x116 :: l117))).bind fun l119 => some (x118 :: l119))).bind fun x120 => some (Tu.mk x120))).bind fun x121 => some x121.xs)).bind fun l229 => forS (fun (s98 : (List (List ((Int) × (Int))))) (a122 : Int) => ((((((some v_told)).bind fun x123 => ((some ([] : List ((Int) × (Int))))).bind fun x124 => some (!decide (x123 = x124)))).bind fun b125 => if b125 = true then (((((some v_told)).bind fun x126 => ((some a122)).bind fun x127 => atI x126 x127)).bind fun (z128 : (Int) × (Int)) => (((((some s98)).bind fun x157 => ((((((((some v_told)).bind fun x130 => ((some (none : Option Int))).bind fun x131 => ((((some a122)).bind fun x129 => some (some x129))).bind fun x132 => some (cut x130 x131 x132))).bind fun x139 => ((((some v_told)).bind fun x136 => ((((((some a122)).bind fun x133 => ((some (1 : Int))).bind fun x134 => some (x133 + x134))).bind fun x135 => some (some x135))).bind fun x137 => ((some (none : Option Int))).bind fun x138 => some (cut x136 x137 x138))).bind fun x140 => cat? x139 x140)).bind fun x155 => ((((((((some v_told)).bind fun x144 => ((some (none : Option Int))).bind fun x145 => ((((((some a122)).bind fun x141 => ((some (1 : Int))).bind fun x142 => some (x141 + x142))).bind fun x143 => some (some x143))).bind fun x146 => some (cut x144 x145 x146))).bind fun x151 => ((((some v_told)).bind fun x148 => ((((some a122)).bind fun x147 => some (some x147))).bind fun x149 => ((some (none : Option Int))).bind fun x150 => some (cut x148 x149 x150))).bind fun x152 => cat? x151 x152)).bind fun x153 => ((some ([] : List (List ((Int) × (Int)))))).bind fun l154 => some (x153 :: l154))).bind fun l156 => some (x155 :: l156))).bind fun x158 => cat? x157 x158)).bind fun (v_found_159 : List (List ((Int) × (Int)))) => (((((((some z128.1)).bind fun x162 => ((((some z128.2)).bind fun x160 => ((some (1 : Int))).bind fun x161 => some (x160 + x161))).bind fun x163 => some (x162, x163))).bind fun x180 => ((((((some z128.1)).bind fun x166 => ((((some z128.2)).bind fun x164 => ((some (1 : Int))).bind fun x165 => some (x164 - x165))).bind fun x167 => some (x166, x167))).bind fun x178 => ((((((((some z128.1)).bind fun x168 => ((some (1 : Int))).bind fun x169 => some (x168 + x169))).bind fun x170 => ((some z128.2)).bind fun x171 => some (x170, x171))).bind fun x176 => ((((((some z128.2)).bind fun x172 => ((some z128.1)).bind fun x173 => some (x172, x173))).bind fun x174 => ((some ([] : List ((Int) × (Int))))).bind fun l175 => some (x174 :: l175))).bind fun l177 => some (x176 :: l177))).bind fun l179 => some (x178 :: l179))).bind fun l181 => some (x180 :: l181))).bind fun (v_rows_182 : List ((Int) × (Int))) => (((((some v_rows_182)).bind fun x203 => ((((((((some (1 : Int))).bind fun x183 => some (-x183))).bind fun x184 => ((some (0 : Int))).bind fun x185 => some (x184, x185))).bind fun x201 => ((((((some z128.1)).bind fun x186 => ((some v_many_16)).bind fun x187 => some (x186, x187))).bind fun x199 => ((((((((some (10 : Int))).bind fun x188 => ((some (20 : Int))).bind fun x189 => pow? x188 x189)).bind fun x190 => ((some (0 : Int))).bind fun x191 => some (x190, x191))).bind fun x197 => ((((((some z128.1)).bind fun x193 => ((((some (1 : Int))).bind fun x192 => some (-x192))).bind fun x194 => some (x193, x194))).bind fun x195 => ((some ([] : List ((Int) × (Int))))).bind fun l196 => some (x195 :: l196))).bind fun l198 => some (x197 :: l198))).bind fun l200 => some (x199 :: l200))).bind fun l202 => some (x201 :: l202))).bind fun x204 => cat? x203 x204)).bind fun (v_rows_205 : List ((Int) × (Int))) => (((((some v_found_159)).bind fun x225 => ((((some v_rows_205)).bind fun x223 => lc? (fun (a206 : (Int) × (Int)) => (some true)) (fun (a206 : (Int) × (Int)) => (((((((some v_told)).bind fun x208 => ((some (none : Option Int))).bind fun x209 => ((((some a122)).bind fun x207 => some (some x207))).bind fun x210 => some (cut x208 x209 x210))).bind fun x213 => ((((some a206)).bind fun x211 => ((some ([] : List ((Int) × (Int))))).bind fun l212 => some (x211 :: l212))).bind fun x214 => cat? x213 x214)).bind fun x221 => ((((some v_told)).bind fun x218 => ((((((some a122)).bind fun x215 => ((some (1 : Int))).bind fun x216 => some (x215 + x216))).bind fun x217 => some (some x217))).bind fun x219 => ((some (none : Option Int))).bind fun x220 => some (cut x218 x219 x220))).bind fun x222 => cat? x221 x222)) x223)).bind fun x226 => cat? x225 x226)).bind fun (v_found_227 : List (List ((Int) × (Int)))) => (some v_found_227)))))) else (some s98) : Option ((List (List ((Int) × (Int)))))).bind fun s228 => (some s228))) v_found_97 l229).bind fun (s98 : (List (List ((Int) × (Int))))) => (((some s98)).bind fun x234 => lc? (fun (a230 : List ((Int) × (Int))) => (((((some a230)).bind fun x231 => some (x231.length : Int))).bind fun x232 => ((some (61 : Int))).bind fun x233 => some (decide (x232 < x233)))) (fun (a230 : List ((Int) × (Int))) => (some a230)) x234))))))
def _law_whole (v_found : Int) : Option (Bool) :=
  (((((some v_found)).bind fun _ => some true)).bind fun x2 => if x2 = true then (((((some v_found)).bind fun _ => some false)).bind fun x1 => some (!x1)) else some false)
def bears (v_order : List (Int)) (v_weights : List (Int)) (v_rows : List ((List (Int)) × (Int))) : Option (Int) :=
  (((some ([] : List (Int × Int)))).bind fun (v_borne_1 : List (Int × Int)) => ((some (0 : Int))).bind fun (v_whole_2 : Int) => ((((some v_rows)).bind fun l41 => forB (β := Int) (fun (s3 : (List (Int × Int)) × (Int)) (a4 : (List (Int)) × (Int)) => (((((((some a4.2)).bind fun x5 => ((some (1 : Int))).bind fun x6 => some (decide (x5 < x6)))).bind fun x23 => if x23 = true then some true else (((((((some v_order)).bind fun x7 => ((some a4.1)).bind fun x8 => are_in x7 x8)).bind fun x9 => some (!x9))).bind fun x22 => if x22 = true then some true else (((((((some a4.1)).bind fun x14 => ((((some a4.1)).bind fun x11 => ((((some (1 : Int))).bind fun x10 => some (some x10))).bind fun x12 => ((some (none : Option Int))).bind fun x13 => some (cut x11 x12 x13))).bind fun x15 => some (List.zip x14 x15))).bind fun x19 => lc? (fun (a16 : (Int) × (Int)) => (some true)) (fun (a16 : (Int) × (Int)) => (((some a16.1)).bind fun x17 => ((some a16.2)).bind fun x18 => some (decide (x17 ≤ x18)))) x19)).bind fun x21 => some (x21.any id))))).bind fun b24 => if b24 = true then ((((some (1 : Int))).bind fun x25 => some (-x25))).bind (fun x40 => some (Rr.rt x40)) else (((some a4.2)).bind fun x26 => (some (s3.2 + x26)).bind fun (v_whole_27 : Int) => ((((some a4.1)).bind fun l39 => forS (fun (s28 : (List (Int × Int))) (a29 : Int) => (((((((some a29)).bind fun x32 => ((some (0 : Int))).bind fun x33 => some (getD s28 x32 x33))).bind fun x34 => ((some a4.2)).bind fun x35 => some (x34 + x35))).bind fun x36 => ((some a29)).bind fun x37 => (putD? s28 x37 x36).bind fun (v_borne_38 : List (Int × Int)) => (some v_borne_38))) s3.1 l39).bind fun (s28 : (List (Int × Int))) => (some (Rr.nx (s28, v_whole_27))))))) (v_borne_1, v_whole_2) l41).bind (Rr.goR fun (s3 : (List (Int × Int)) × (Int)) => (((((((some v_order)).bind fun x49 => lc? (fun (a42 : Int) => (some true)) (fun (a42 : Int) => (((((some a42)).bind fun x43 => ((some (0 : Int))).bind fun x44 => some (getD s3.1 x43 x44))).bind fun x47 => ((((some v_weights)).bind fun x45 => ((some a42)).bind fun x46 => atI x45 x46)).bind fun x48 => some (decide (x47 < x48)))) x49)).bind fun x51 => some (x51.any id))).bind fun b52 => if b52 = true then (((some (1 : Int))).bind fun x53 => some (-x53)) else (some s3.2)))))
def Least_shows (v_self : Ans) (v_order : List (Int)) (v_weights : List (Int)) (v_nailed : List (Int)) : Option (Bool) :=
  (((((((((some v_order)).bind fun x2 => ((((some v_self)).bind fun x1 => Ans.stay? x1)).bind fun x3 => is_staying x2 x3)).bind fun x4 => some (!x4))).bind fun x13 => if x13 = true then some true else (((((((some v_nailed)).bind fun x9 => lc? (fun (a5 : Int) => (some true)) (fun (a5 : Int) => (((some a5)).bind fun x7 => ((((some v_self)).bind fun x6 => Ans.stay? x6)).bind fun x8 => some (decide (x7 ∈ x8)))) x9)).bind fun x11 => some (x11.all id))).bind fun x12 => some (!x12)))).bind fun b14 => if b14 = true then (some false) else (((((((some v_order)).bind fun x21 => ((some v_nailed)).bind fun x22 => free_ones x21 x22)).bind fun x24 => ((some v_weights)).bind fun x25 => ((((some v_self)).bind fun x23 => Ans.rows? x23)).bind fun x26 => bears x24 x25 x26)).bind fun x30 => ((((some v_weights)).bind fun x28 => ((((some v_self)).bind fun x27 => Ans.stay? x27)).bind fun x29 => weight_of x28 x29)).bind fun x31 => some (decide (x30 = x31))))
def Stuck_shows (v_self : Ans) (v_order : List (Int)) (v_weights : List (Int)) (v_nailed : List (Int)) : Option (Bool) :=
  (((((((((some v_self)).bind fun x1 => Ans.one? x1)).bind fun x2 => ((some v_nailed)).bind fun x3 => some (!decide (x2 ∈ x3)))).bind fun x12 => if x12 = true then some true else (((((((some v_self)).bind fun x4 => Ans.other? x4)).bind fun x5 => ((some v_nailed)).bind fun x6 => some (!decide (x5 ∈ x6)))).bind fun x11 => if x11 = true then some true else (((((some v_self)).bind fun x7 => Ans.one? x7)).bind fun x9 => ((((some v_self)).bind fun x8 => Ans.other? x8)).bind fun x10 => some (decide (x10 ≤ x9)))))).bind fun b13 => if b13 = true then (some false) else (((((some v_order)).bind fun x15 => ((((some v_self)).bind fun x14 => Ans.one? x14)).bind fun x16 => idx? x15 x16)).bind fun x20 => ((((some v_order)).bind fun x18 => ((((some v_self)).bind fun x17 => Ans.other? x17)).bind fun x19 => idx? x18 x19)).bind fun x21 => some (decide (x21 < x20))))
def ms_shows_3 (c : Nat) : (Ans) → (List (Int)) → (List (Int)) → (List (Int)) → Option (Bool) :=
  if c = 0 then Least_shows else Stuck_shows
def _law_stand (v_order_here : List (Int)) (v_books : List (Int)) : Option (Bool) :=
  (((((((some v_books)).bind fun x4 => lc? (fun (a1 : Int) => (some true)) (fun (a1 : Int) => (((some a1)).bind fun x2 => ((some v_order_here)).bind fun x3 => some (!decide (x2 ∈ x3)))) x4)).bind fun x6 => some (x6.any id))).bind fun b7 => if b7 = true then (some false) else (((((some v_books)).bind fun x11 => lc? (fun (a8 : Int) => (some true)) (fun (a8 : Int) => (((some v_order_here)).bind fun x9 => ((some a8)).bind fun x10 => idx? x9 x10)) x11)).bind fun (v_places_13 : List (Int)) => (((some v_places_13)).bind fun x15 => ((((some v_places_13)).bind fun x14 => sset? x14)).bind fun x16 => some (decide (x15 = x16)))))
def _law_bears (v_order_here : List (Int)) (v_weights_here : List (Int)) (v_rows : List ((List (Int)) × (Int))) : Option (Int) :=
  (((((((some (0 : Int))).bind fun x1 => ((some ([] : List (Int)))).bind fun l2 => some (x1 :: l2))).bind fun x4 => ((((some v_weights_here)).bind fun x3 => some (x3.length : Int))).bind fun x5 => rep? x4 x5)).bind fun (v_borne_6 : List (Int)) => ((some (0 : Int))).bind fun (v_whole_here_7 : Int) => ((((some v_rows)).bind fun l37 => forB (β := Int) (fun (s8 : (List (Int)) × (Int)) (a9 : (List (Int)) × (Int)) => (((((((some a9.2)).bind fun x10 => ((some (1 : Int))).bind fun x11 => some (decide (x10 < x11)))).bind fun x20 => if x20 = true then some true else (((((((some v_order_here)).bind fun x12 => ((some a9.1)).bind fun x13 => _law_stand x12 x13)).bind fun x14 => some (!x14))).bind fun x19 => if x19 = true then some true else (((some a9.1)).bind fun x17 => ((((((some a9.1)).bind fun x15 => sset? x15)).bind fun x16 => some x16.reverse)).bind fun x18 => some (!decide (x17 = x18)))))).bind fun b21 => if b21 = true then ((((some (1 : Int))).bind fun x22 => some (-x22))).bind (fun x36 => some (Rr.rt x36)) else (((((some s8.2)).bind fun x23 => ((some a9.2)).bind fun x24 => some (x23 + x24))).bind fun (v_whole_here_25 : Int) => ((((some a9.1)).bind fun l35 => forS (fun (s26 : (List (Int))) (a27 : Int) => (((((((some a27)).bind fun x29 => atI s26 x29)).bind fun x30 => ((some a9.2)).bind fun x31 => some (x30 + x31))).bind fun x32 => ((some a27)).bind fun x33 => (seti? s26 x33 x32).bind fun (v_borne_34 : List (Int)) => (some v_borne_34))) s8.1 l35).bind fun (s26 : (List (Int))) => (some (Rr.nx (s26, v_whole_here_25))))))) (v_borne_6, v_whole_here_7) l37).bind (Rr.goR fun (s8 : (List (Int)) × (Int)) => (((((((some v_order_here)).bind fun x44 => lc? (fun (a38 : Int) => (some true)) (fun (a38 : Int) => (((((some a38)).bind fun x39 => atI s8.1 x39)).bind fun x42 => ((((some v_weights_here)).bind fun x40 => ((some a38)).bind fun x41 => atI x40 x41)).bind fun x43 => some (decide (x43 ≤ x42)))) x44)).bind fun x46 => some (x46.all id))).bind fun x48 => if x48 = true then (some s8.2) else (((some (1 : Int))).bind fun x47 => some (-x47))))))
def _law_is_least (v_order_here : List (Int)) (v_weights_here : List (Int)) (v_nailed_here : List (Int)) (v_stay : List (Int)) (v_rows : List ((List (Int)) × (Int))) : Option (Bool) :=
  (((((((some v_stay)).bind fun x2 => ((((some v_stay)).bind fun x1 => sset? x1)).bind fun x3 => some (!decide (x2 = x3)))).bind fun x14 => if x14 = true then some true else (((((((some v_order_here)).bind fun x4 => ((some v_stay)).bind fun x5 => _law_stand x4 x5)).bind fun x6 => some (!x6))).bind fun x13 => if x13 = true then some true else (((((some v_nailed_here)).bind fun x10 => lc? (fun (a7 : Int) => (some true)) (fun (a7 : Int) => (((some a7)).bind fun x8 => ((some v_stay)).bind fun x9 => some (!decide (x8 ∈ x9)))) x10)).bind fun x12 => some (x12.any id))))).bind fun b15 => if b15 = true then (some false) else (((((((some v_order_here)).bind fun x21 => ((some v_nailed_here)).bind fun x22 => _law_free x21 x22)).bind fun x23 => ((some v_weights_here)).bind fun x24 => ((some v_rows)).bind fun x25 => _law_bears x23 x24 x25)).bind fun x32 => ((((((some v_stay)).bind fun x29 => lc? (fun (a26 : Int) => (some true)) (fun (a26 : Int) => (((some v_weights_here)).bind fun x27 => ((some a26)).bind fun x28 => atI x27 x28)) x29)).bind fun x31 => some x31.sum)).bind fun x33 => some (decide (x32 = x33))))
def _law_is_stuck (v_order_here : List (Int)) (v_nailed_here : List (Int)) (v_one : Int) (v_other : Int) : Option (Bool) :=
  (((((some v_one)).bind fun x1 => ((some v_nailed_here)).bind fun x2 => some (decide (x1 ∈ x2)))).bind fun x15 => if x15 = true then (((((some v_other)).bind fun x3 => ((some v_nailed_here)).bind fun x4 => some (decide (x3 ∈ x4)))).bind fun x14 => if x14 = true then (((((some v_one)).bind fun x5 => ((some v_other)).bind fun x6 => some (decide (x5 < x6)))).bind fun x13 => if x13 = true then (((((some v_order_here)).bind fun x7 => ((some v_one)).bind fun x8 => idx? x7 x8)).bind fun x11 => ((((some v_order_here)).bind fun x9 => ((some v_other)).bind fun x10 => idx? x9 x10)).bind fun x12 => some (decide (x12 < x11))) else some false) else some false) else some false)
def is_round (v_order : List (Int)) (v_books : List (Int)) : Option (Bool) :=
  (((((((some v_books)).bind fun x1 => ((some ([] : List (Int)))).bind fun x2 => some (decide (x1 = x2)))).bind fun x10 => if x10 = true then some true else (((((((some v_books)).bind fun x6 => lc? (fun (a3 : Int) => (some true)) (fun (a3 : Int) => (((some a3)).bind fun x4 => ((some v_order)).bind fun x5 => some (decide (x4 ∈ x5)))) x6)).bind fun x8 => some (x8.all id))).bind fun x9 => some (!x9)))).bind fun b11 => if b11 = true then (some false) else (((((some v_order)).bind fun x12 => some (x12.length : Int))).bind fun (v_many_13 : Int) => (((((some v_order)).bind fun x16 => ((((some v_books)).bind fun x14 => ((some (0 : Int))).bind fun x15 => atI x14 x15)).bind fun x17 => read_from x16 x17)).bind fun x27 => ((((some v_books)).bind fun x25 => lc? (fun (a18 : Int) => (some true)) (fun (a18 : Int) => (((((some a18)).bind fun x21 => ((((some v_books)).bind fun x19 => ((some (0 : Int))).bind fun x20 => atI x19 x20)).bind fun x22 => some (x21 - x22))).bind fun x23 => ((some v_many_13)).bind fun x24 => fmod? x23 x24)) x25)).bind fun x28 => is_staying x27 x28)))
def Round_shows (v_self : Ans) (v_order : List (Int)) (v_weights : List (Int)) : Option (Bool) :=
  (((((((((some v_order)).bind fun x2 => ((((some v_self)).bind fun x1 => Ans.stay? x1)).bind fun x3 => is_round x2 x3)).bind fun x4 => some (!x4))).bind fun x12 => if x12 = true then some true else (((((((some v_self)).bind fun x7 => Ans.papers? x7)).bind fun x8 => some (x8.length : Int))).bind fun x10 => ((((some v_order)).bind fun x9 => some (x9.length : Int))).bind fun x11 => some (!decide (x10 = x11))))).bind fun b13 => if b13 = true then (some false) else (((((some v_weights)).bind fun x15 => ((((some v_self)).bind fun x14 => Ans.stay? x14)).bind fun x16 => weight_of x15 x16)).bind fun (v_best_18 : Int) => ((((some v_order)).bind fun x17 => some (x17.length : Int))).bind fun (v_many_19 : Int) => ((((((((some v_self)).bind fun x21 => Ans.papers? x21)).bind fun x22 => some (enumL x22))).bind fun l62 => forB (β := Bool) (fun (s20 : Unit) (a23 : (Int) × (List ((List (Int)) × (Int)))) => (((some ([] : List ((List (Int)) × (Int))))).bind fun (v_turned_24 : List ((List (Int)) × (Int))) => ((((some a23.2)).bind fun l48 => forB (β := Bool) (fun (s25 : (List ((List (Int)) × (Int)))) (a26 : (List (Int)) × (Int)) => (((((((((some a26.1)).bind fun x31 => lc? (fun (a27 : Int) => (some true)) (fun (a27 : Int) => (((some (0 : Int))).bind fun x28 => ((some a27)).bind fun x29 => if decide (x28 ≤ x29) = true then ((some v_many_19)).bind fun x30 => some (decide (x29 < x30)) else some false)) x31)).bind fun x33 => some (x33.all id))).bind fun x34 => some (!x34))).bind fun b35 => if b35 = true then ((some false)).bind (fun x47 => some (Rr.rt x47)) else (((((((some a26.1)).bind fun x42 => lc? (fun (a37 : Int) => (some true)) (fun (a37 : Int) => (((((some a37)).bind fun x38 => ((some a23.1)).bind fun x39 => some (x38 - x39))).bind fun x40 => ((some v_many_19)).bind fun x41 => fmod? x40 x41)) x42)).bind fun x44 => ((some a26.2)).bind fun x45 => some (x44, x45))).bind fun x46 => (app? s25 x46).bind fun (v_turned_36 : List ((List (Int)) × (Int))) => (some (Rr.nx v_turned_36))))) v_turned_24 l48).bind (Rr.goB fun (s25 : (List ((List (Int)) × (Int)))) => (((((((some (0 : Int))).bind fun x56 => ((((((some v_order)).bind fun x49 => ((some a23.1)).bind fun x50 => read_from x49 x50)).bind fun x53 => ((((some v_weights)).bind fun x51 => ((some a23.1)).bind fun x52 => weights_from x51 x52)).bind fun x54 => ((some s25)).bind fun x55 => bears x53 x54 x55)).bind fun x57 => if decide (x56 ≤ x57) = true then ((some v_best_18)).bind fun x58 => some (decide (x57 ≤ x58)) else some false)).bind fun x59 => some (!x59))).bind fun b60 => if b60 = true then ((some false)).bind (fun x61 => some (Rr.rt x61)) else (some (Rr.nx ()))))))) () l62).bind (Rr.goR fun (s20 : Unit) => (some true)))))
def ms_shows_2 (c : Nat) : (Ans) → (List (Int)) → (List (Int)) → Option (Bool) :=
  Round_shows
def _law_read (v_order_here : List (Int)) (v_book : Int) : Option (List (Int)) :=
  (((((some v_order_here)).bind fun x1 => ((some v_book)).bind fun x2 => idx? x1 x2)).bind fun (v_at_4 : Int) => ((((some v_order_here)).bind fun x3 => some (x3.length : Int))).bind fun (v_many_5 : Int) => (((((((some v_order_here)).bind fun x11 => ((((some v_at_4)).bind fun x10 => some (some x10))).bind fun x12 => ((some (none : Option Int))).bind fun x13 => some (cut x11 x12 x13))).bind fun x18 => ((((some v_order_here)).bind fun x15 => ((some (none : Option Int))).bind fun x16 => ((((some v_at_4)).bind fun x14 => some (some x14))).bind fun x17 => some (cut x15 x16 x17))).bind fun x19 => cat? x18 x19)).bind fun x25 => lc? (fun (a20 : Int) => (some true)) (fun (a20 : Int) => (((((some a20)).bind fun x21 => ((some v_book)).bind fun x22 => some (x21 - x22))).bind fun x23 => ((some v_many_5)).bind fun x24 => fmod? x23 x24)) x25))
def _law_read_weights (v_weights_here : List (Int)) (v_book : Int) : Option (List (Int)) :=
  (((((some v_weights_here)).bind fun x2 => ((((some v_book)).bind fun x1 => some (some x1))).bind fun x3 => ((some (none : Option Int))).bind fun x4 => some (cut x2 x3 x4))).bind fun x9 => ((((some v_weights_here)).bind fun x6 => ((some (none : Option Int))).bind fun x7 => ((((some v_book)).bind fun x5 => some (some x5))).bind fun x8 => some (cut x6 x7 x8))).bind fun x10 => cat? x9 x10)
def _law_round_tall (v_order_here : List (Int)) (v_weights_here : List (Int)) : Option (Int) :=
  (((((((((some v_order_here)).bind fun x1 => some (x1.length : Int))).bind fun x2 => rng? 0 x2)).bind fun x10 => lc? (fun (a3 : Int) => (some true)) (fun (a3 : Int) => (((((some v_order_here)).bind fun x4 => ((some a3)).bind fun x5 => _law_read x4 x5)).bind fun x8 => ((((some v_weights_here)).bind fun x6 => ((some a3)).bind fun x7 => _law_read_weights x6 x7)).bind fun x9 => _law_tall x8 x9)) x10)).bind fun x12 => maxL x12)
def _law_is_round (v_order_here : List (Int)) (v_weights_here : List (Int)) (v_stay : List (Int)) (v_papers : List (List ((List (Int)) × (Int)))) : Option (Bool) :=
  (((((some v_order_here)).bind fun x1 => some (x1.length : Int))).bind fun (v_many_2 : Int) => (((((((some v_stay)).bind fun x3 => ((some ([] : List (Int)))).bind fun x4 => some (decide (x3 = x4)))).bind fun x16 => if x16 = true then some true else (((((((some v_stay)).bind fun x8 => lc? (fun (a5 : Int) => (some true)) (fun (a5 : Int) => (((some a5)).bind fun x6 => ((some v_order_here)).bind fun x7 => some (!decide (x6 ∈ x7)))) x8)).bind fun x10 => some (x10.any id))).bind fun x15 => if x15 = true then some true else (((((some v_papers)).bind fun x12 => some (x12.length : Int))).bind fun x13 => ((some v_many_2)).bind fun x14 => some (!decide (x13 = x14)))))).bind fun b17 => if b17 = true then (some false) else (((((some v_stay)).bind fun x25 => lc? (fun (a18 : Int) => (some true)) (fun (a18 : Int) => (((((some a18)).bind fun x21 => ((((some v_stay)).bind fun x19 => ((some (0 : Int))).bind fun x20 => atI x19 x20)).bind fun x22 => some (x21 - x22))).bind fun x23 => ((some v_many_2)).bind fun x24 => fmod? x23 x24)) x25)).bind fun (v_turned_27 : List (Int)) => (((((((some v_turned_27)).bind fun x29 => ((((some v_turned_27)).bind fun x28 => sset? x28)).bind fun x30 => some (!decide (x29 = x30)))).bind fun x38 => if x38 = true then some true else (((((((some v_order_here)).bind fun x33 => ((((some v_stay)).bind fun x31 => ((some (0 : Int))).bind fun x32 => atI x31 x32)).bind fun x34 => _law_read x33 x34)).bind fun x35 => ((some v_turned_27)).bind fun x36 => _law_stand x35 x36)).bind fun x37 => some (!x37)))).bind fun b39 => if b39 = true then (some false) else (((((((some v_stay)).bind fun x43 => lc? (fun (a40 : Int) => (some true)) (fun (a40 : Int) => (((some v_weights_here)).bind fun x41 => ((some a40)).bind fun x42 => atI x41 x42)) x43)).bind fun x45 => some x45.sum)).bind fun (v_best_46 : Int) => ((((((some v_papers)).bind fun x48 => some (enumL x48))).bind fun l90 => forB (β := Bool) (fun (s47 : Unit) (a49 : (Int) × (List ((List (Int)) × (Int)))) => (((((((some a49.2)).bind fun x59 => lc? (fun (a50 : (List (Int)) × (Int)) => (some true)) (fun (a50 : (List (Int)) × (Int)) => (((((some a50.1)).bind fun x56 => lc? (fun (a51 : Int) => (some true)) (fun (a51 : Int) => (((((some (0 : Int))).bind fun x52 => ((some a51)).bind fun x53 => if decide (x52 ≤ x53) = true then ((some v_many_2)).bind fun x54 => some (decide (x53 < x54)) else some false)).bind fun x55 => some (!x55))) x56)).bind fun x58 => some (x58.any id))) x59)).bind fun x61 => some (x61.any id))).bind fun b62 => if b62 = true then ((some false)).bind (fun x89 => some (Rr.rt x89)) else (((((some a49.2)).bind fun x73 => lc? (fun (a63 : (List (Int)) × (Int)) => (some true)) (fun (a63 : (List (Int)) × (Int)) => (((((some a63.1)).bind fun x69 => lc? (fun (a64 : Int) => (some true)) (fun (a64 : Int) => (((((some a64)).bind fun x65 => ((some a49.1)).bind fun x66 => some (x65 - x66))).bind fun x67 => ((some v_many_2)).bind fun x68 => fmod? x67 x68)) x69)).bind fun x71 => ((some a63.2)).bind fun x72 => some (x71, x72))) x73)).bind fun (v_mine_75 : List ((List (Int)) × (Int))) => (((((((some (0 : Int))).bind fun x83 => ((((((some v_order_here)).bind fun x76 => ((some a49.1)).bind fun x77 => _law_read x76 x77)).bind fun x80 => ((((some v_weights_here)).bind fun x78 => ((some a49.1)).bind fun x79 => _law_read_weights x78 x79)).bind fun x81 => ((some v_mine_75)).bind fun x82 => _law_bears x80 x81 x82)).bind fun x84 => if decide (x83 ≤ x84) = true then ((some v_best_46)).bind fun x85 => some (decide (x84 ≤ x85)) else some false)).bind fun x86 => some (!x86))).bind fun b87 => if b87 = true then ((some false)).bind (fun x88 => some (Rr.rt x88)) else (some (Rr.nx ())))))) () l90).bind (Rr.goR fun (s47 : Unit) => (some true))))))))
def Shelf_check (v_self : Shf) (v_book : Int) : Option (Unit) :=
  (((((((some v_book)).bind fun x5 => ((some (0 : Int))).bind fun x6 => ((((((((some v_self)).bind fun x1 => some x1.books)).bind fun x2 => some (x2.length : Int))).bind fun x3 => ((some (1 : Int))).bind fun x4 => some (x3 - x4))).bind fun x7 => is_between x5 x6 x7)).bind fun x8 => some (!x8))).bind fun b9 => if b9 = true then none else (some ()))
def ms_check_1 (c : Nat) : (Shf) → (Int) → Option (Unit) :=
  Shelf_check
def Shelf_helpful (v_self : Shf) : Option (Option ((Int) × (Int))) :=
  (((((((((some v_self)).bind fun x1 => some x1.books)).bind fun x3 => ((((some v_self)).bind fun x2 => some x2.nailed)).bind fun x4 => clash x3 x4)).bind fun x5 => some (!x5.isNone))).bind fun b6 => if b6 = true then (some (none : Option ((Int) × (Int)))) else (((((((((some v_self)).bind fun x7 => some x7.books)).bind fun x9 => ((((some v_self)).bind fun x8 => some x8.nailed)).bind fun x10 => free_ones x9 x10)).bind fun x12 => ((((some v_self)).bind fun x11 => some x11.weights)).bind fun x13 => staying x12 x13)).bind fun (v_settled_14 : List (Int)) => ((((((((((some v_self)).bind fun x16 => some x16.books)).bind fun x17 => some (x17.length : Int))).bind fun x18 => rng? 0 x18)).bind fun l31 => forB (β := Option ((Int) × (Int))) (fun (s15 : Unit) (a19 : Int) => (((((some a19)).bind fun x20 => ((some v_settled_14)).bind fun x21 => some (!decide (x20 ∈ x21)))).bind fun b22 => if b22 = true then ((((((some a19)).bind fun x27 => ((((((some v_self)).bind fun x23 => some x23.books)).bind fun x24 => ((some a19)).bind fun x25 => ((some v_settled_14)).bind fun x26 => place_among x24 x25 x26)).bind fun x28 => some (x27, x28))).bind fun x29 => some (some x29))).bind (fun x30 => some (Rr.rt x30)) else (some (Rr.nx ())))) () l31).bind (Rr.goR fun (s15 : Unit) => (some (none : Option ((Int) × (Int))))))))
def ms_helpful_0 (c : Nat) : (Shf) → Option (Option ((Int) × (Int))) :=
  Shelf_helpful
def Shelf_order (v_self : Shf) : Option (List (Int)) :=
  (((((some v_self)).bind fun x1 => some x1.books)).bind fun x2 => some x2)
def ms_order_0 (c : Nat) : (Shf) → Option (List (Int)) :=
  Shelf_order
def Shelf_spent (v_self : Shf) : Option (Int) :=
  (((some v_self)).bind fun x1 => some x1.paid)
def ms_spent_0 (c : Nat) : (Shf) → Option (Int) :=
  Shelf_spent
def Shelf_plan (v_self : Shf) : Option (List ((Int) × (Int))) :=
  (((((some v_self)).bind fun x1 => some x1.done)).bind fun x2 => some x2)
def ms_plan_0 (c : Nat) : (Shf) → Option (List ((Int) × (Int))) :=
  Shelf_plan
def Shelf_put (v_self : Shf) (v_book : Int) (v_place : Int) : Option ((Option (Int)) × Shf) :=
  (((((some v_self)).bind fun x2 => ((some v_book)).bind fun x1 => pick [6] (shf_cls x2) (ms_check_1 (shf_cls x2) x2 x1))).bind fun x43 => (((((some v_book)).bind fun x4 => ((((some v_self)).bind fun x3 => some x3.nailed)).bind fun x5 => some (decide (x4 ∈ x5)))).bind fun b6 => if b6 = true then none else (((((((some v_place)).bind fun x11 => ((some (0 : Int))).bind fun x12 => ((((((((some v_self)).bind fun x7 => some x7.books)).bind fun x8 => some (x8.length : Int))).bind fun x9 => ((some (1 : Int))).bind fun x10 => some (x9 - x10))).bind fun x13 => is_between x11 x12 x13)).bind fun x14 => some (!x14))).bind fun b15 => if b15 = true then none else (((((((some v_self)).bind fun x19 => some x19.books)).bind fun x20 => ((some v_book)).bind fun x21 => ((some v_place)).bind fun x22 => put_at x20 x21 x22)).bind fun l17 => (some (Shf.setBooks v_self l17)).bind fun (v_self_16 : Shf) => ((some (Shf.paid v_self_16)).bind fun l24 => ((((((some v_self_16)).bind fun x26 => some x26.weights)).bind fun x27 => ((some v_book)).bind fun x28 => atI x27 x28)).bind fun x25 => (some (Shf.setPaid v_self_16 (l24 + x25))).bind fun (v_self_23 : Shf) => (((some v_self_23).bind fun b29 => some b29.done).bind fun l31 => ((((some v_book)).bind fun x33 => ((some v_place)).bind fun x34 => some (x33, x34))).bind fun x39 => (app? l31 x39).bind fun l40 => ((fun c30 => (some v_self_23).bind fun b29 => (some (b29.setDone c30)).bind some) l40).bind fun (v_self_32 : Shf) => (((((some v_self_32)).bind fun x41 =>  pick [6] (shf_cls x41) (ms_owed_0 (shf_cls x41) x41))).bind fun x42 => some (x42, v_self_32))))))))
def Shelf_mix (v_self : Shf) (v_one : Int) (v_other : Int) : Option ((Option (Int)) × Shf) :=
  (((((some v_self)).bind fun x2 => ((some v_one)).bind fun x1 => pick [6] (shf_cls x2) (ms_check_1 (shf_cls x2) x2 x1))).bind fun x28 => (((((some v_self)).bind fun x4 => ((some v_other)).bind fun x3 => pick [6] (shf_cls x4) (ms_check_1 (shf_cls x4) x4 x3))).bind fun x27 => (((((((some v_self)).bind fun x5 => some x5.books)).bind fun x6 => ((some v_one)).bind fun x7 => idx? x6 x7)).bind fun (v_first_11 : Int) => ((((((some v_self)).bind fun x8 => some x8.books)).bind fun x9 => ((some v_other)).bind fun x10 => idx? x9 x10)).bind fun (v_second_12 : Int) => (((some v_other)).bind fun x17 => ((some v_self).bind fun b13 => some b13.books).bind fun l15 => (seti? l15 (v_first_11) x17).bind fun l18 => ((fun c14 => (some v_self).bind fun b13 => (some (b13.setBooks c14)).bind some) l18).bind fun (v_self_16 : Shf) => (((some v_one)).bind fun x23 => ((some v_self_16).bind fun b19 => some b19.books).bind fun l21 => (seti? l21 (v_second_12) x23).bind fun l24 => ((fun c20 => (some v_self_16).bind fun b19 => (some (b19.setBooks c20)).bind some) l24).bind fun (v_self_22 : Shf) => (((((some v_self_22)).bind fun x25 =>  pick [6] (shf_cls x25) (ms_owed_0 (shf_cls x25) x25))).bind fun x26 => some (x26, v_self_22)))))))
end Fw

set_option pp.maxSteps 200
set_option Elab.async false
set_option maxRecDepth 100000
set_option maxHeartbeats 20000000
set_option linter.all false
namespace Fw
open PySem L2 PU
open PU.Enc
def CS_ : List Nat := [14, 15]
def is_whole_D (v_thing : D) : Option (Bool) :=
  (((((some v_thing)).bind fun x1 => isiD "int" x1)).bind fun x4 => if x4 = true then (((((some v_thing)).bind fun x2 => isiD "bool" x2)).bind fun x3 => some (!x3)) else some false)
def is_between_D (v_thing : D) (v_least : Int) (v_most : Int) : Option (Bool) :=
  (((((some v_thing)).bind fun x1 => is_whole_D x1)).bind fun x6 => if x6 = true then (((some v_least)).bind fun x3 => ((((some v_thing)).bind fun x2 => intD x2)).bind fun x4 => if decide (x3 ≤ x4) = true then ((some v_most)).bind fun x5 => some (decide (x4 ≤ x5)) else some false) else some false)
def checkX (self : Shf) (book : D) : Option (Option Nat) := ((((((some book)).bind fun x11 => ((some (0 : Int))).bind fun x12 => ((((((((some self)).bind fun x7 => some x7.books)).bind fun x8 => some (x8.length : Int))).bind fun x9 => ((some (1 : Int))).bind fun x10 => some (x9 - x10))).bind fun x13 => is_between_D x11 x12 x13)).bind fun x14 => some (!x14))).bind fun c => if c = true then some (some 14) else some none
def putX (self : Shf) (book place : D) : Option Nat := (checkX self book).bind fun o => match o with | some c => some c | none => (((((((some book)).bind fun x15 => intD x15)).bind fun x17 => ((((some self)).bind fun x16 => some x16.nailed)).bind fun x18 => some (decide (x17 ∈ x18)))).bind fun c => if c = true then some 14 else (((((((some place)).bind fun x23 => ((some (0 : Int))).bind fun x24 => ((((((((some self)).bind fun x19 => some x19.books)).bind fun x20 => some (x20.length : Int))).bind fun x21 => ((some (1 : Int))).bind fun x22 => some (x21 - x22))).bind fun x25 => is_between_D x23 x24 x25)).bind fun x26 => some (!x26))).bind fun c => if c = true then some 15 else none))
def mixX (self : Shf) (one other : D) : Option Nat := (checkX self one).bind fun o => match o with | some c => some c | none => (checkX self other).bind fun o => o
def _law_no_numbers (v_more : Int) : Option (List (D)) :=
  (((some ())).bind fun x26 => ((((some (D.str "1"))).bind fun x24 => ((((some true)).bind fun x22 => ((((some false)).bind fun x20 => ((((((some (1 : Int))).bind fun x1 => ((some ([] : List (Int)))).bind fun l2 => some (x1 :: l2))).bind fun x18 => ((((((((some (1 : Int))).bind fun x3 => ((some ([] : List (Int)))).bind fun l4 => some (x3 :: l4))).bind fun x5 => some (Tu.mk x5))).bind fun x16 => ((((some D.dE)).bind fun x14 => ((((((some (1 : Int))).bind fun x6 => some (-x6))).bind fun x12 => ((((((((some (1 : Int))).bind fun x7 => some (-x7))).bind fun x8 => ((some v_more)).bind fun x9 => some (x8 - x9))).bind fun x10 => ((some ([] : List (D)))).bind fun l11 => some (enc x10 :: l11))).bind fun l13 => some (enc x12 :: l13))).bind fun l15 => some (x14 :: l15))).bind fun l17 => some (enc x16 :: l17))).bind fun l19 => some (enc x18 :: l19))).bind fun l21 => some (enc x20 :: l21))).bind fun l23 => some (enc x22 :: l23))).bind fun l25 => some (x24 :: l25))).bind fun l27 => some (enc x26 :: l27))
def _law_state (v_shelf : Shf) : Option (List (D)) :=
  (((((some v_shelf)).bind fun x1 =>  pick [6] (shf_cls x1) (ms_order_0 (shf_cls x1) x1))).bind fun x14 => ((((((some v_shelf)).bind fun x2 =>  pick [6] (shf_cls x2) (ms_spent_0 (shf_cls x2) x2))).bind fun x12 => ((((((some v_shelf)).bind fun x3 =>  pick [6] (shf_cls x3) (ms_plan_0 (shf_cls x3) x3))).bind fun x10 => ((((((some v_shelf)).bind fun x4 =>  pick [6] (shf_cls x4) (ms_owed_0 (shf_cls x4) x4))).bind fun x8 => ((((((some v_shelf)).bind fun x5 =>  pick [6] (shf_cls x5) (ms_helpful_0 (shf_cls x5) x5))).bind fun x6 => ((some ([] : List (D)))).bind fun l7 => some (enc x6 :: l7))).bind fun l9 => some (enc x8 :: l9))).bind fun l11 => some (enc x10 :: l11))).bind fun l13 => some (enc x12 :: l13))).bind fun l15 => some (enc x14 :: l15))
def law (v_script : Scr) : Option (Bool) :=
  ((((((((some v_script)).bind fun x4 => ((some (3 : Int))).bind fun x5 => some (cut x4.ns none (some x5)))).bind fun x9 => ((((((some v_script)).bind fun x6 => some (x6.ns.length : Int))).bind fun x7 => ((some ([] : List (Int)))).bind fun l8 => some (x7 :: l8))).bind fun x10 => cat? x9 x10)).bind fun l204 => forB (β := Bool) (fun (s1 : Unit) (a11 : Int) => (((((((some a11)).bind fun x12 => some (if x12 < 0 then -x12 else x12))).bind fun x15 => ((((some (10 : Int))).bind fun x13 => ((some (20 : Int))).bind fun x14 => pow? x13 x14)).bind fun x16 => fmod? x15 x16)).bind fun (v_more_17 : Int) => (((((((some (3 : Int))).bind fun x24 => ((((some (0 : Int))).bind fun x22 => ((((some (2 : Int))).bind fun x20 => ((((some (1 : Int))).bind fun x18 => ((some ([] : List (Int)))).bind fun l19 => some (x18 :: l19))).bind fun l21 => some (x20 :: l21))).bind fun l23 => some (x22 :: l23))).bind fun l25 => some (x24 :: l25))).bind fun x36 => ((((some (1 : Int))).bind fun x32 => ((((some (2 : Int))).bind fun x30 => ((((some (3 : Int))).bind fun x28 => ((((some (9 : Int))).bind fun x26 => ((some ([] : List (Int)))).bind fun l27 => some (x26 :: l27))).bind fun l29 => some (x28 :: l29))).bind fun l31 => some (x30 :: l31))).bind fun l33 => some (x32 :: l33))).bind fun x37 => ((((some (2 : Int))).bind fun x34 => ((some ([] : List (Int)))).bind fun l35 => some (x34 :: l35))).bind fun x38 => mk_Shelf x36 x37 x38)).bind fun (v_shelf_39 : Shf) => (thn2 (thn2 (thn2 (((some (3 : Int))).bind fun x44 => ((some (3 : Int))).bind fun x45 => Shelf_put v_shelf_39 x44 x45) fun b42 (y43 : Shf) => ((((some (2 : Int))).bind fun x46 => some (some x46))).bind fun x47 => some (!decide (b42 = x47), y43)) fun b40 (y41 : Shf) => if b40 = true then some (true, y41) else (thn2 (((some (0 : Int))).bind fun x50 => ((some (1 : Int))).bind fun x51 => Shelf_mix y41 x50 x51) fun b48 (y49 : Shf) => ((((some (1 : Int))).bind fun x52 => some (some x52))).bind fun x53 => some (!decide (b48 = x53), y49))) fun b54 (v_shelf_55 : Shf) => if b54 = true then ((some false)).bind (fun x56 => some (Rr.rt x56)) else (((((some v_shelf_55)).bind fun x57 => _law_state x57)).bind fun (v_before_67 : List (D)) => ((((((some v_more_17)).bind fun x58 => _law_no_numbers x58)).bind fun x65 => ((((some (4 : Int))).bind fun x63 => ((((((some (4 : Int))).bind fun x59 => ((some v_more_17)).bind fun x60 => some (x59 + x60))).bind fun x61 => ((some ([] : List (D)))).bind fun l62 => some (enc x61 :: l62))).bind fun l64 => some (enc x63 :: l64))).bind fun x66 => cat? x65 x66)).bind fun (v_books_68 : List (D)) => (thn2 (thn2 (((((some v_books_68)).bind fun x75 => ((((some (2 : Int))).bind fun x73 => ((some ([] : List (D)))).bind fun l74 => some (enc x73 :: l74))).bind fun x76 => cat? x75 x76)).bind fun ds77 => (refM CS_ ((fun (S : Shf) (d : D) => putX S (d) (D.non)) v_shelf_55) ds77 (4)).bind fun z => some (z, ())) fun b69 y70 => some (!b69, y70)) fun b78 (u79 : Unit) => if b78 = true then ((some false)).bind (fun x80 => some (Rr.rt x80)) else (thn2 (thn2 (((((some (0 : Int))).bind fun x89 => ((((some (3 : Int))).bind fun x87 => ((((some ())).bind fun x85 => ((some ([] : List (D)))).bind fun l86 => some (enc x85 :: l86))).bind fun l88 => some (enc x87 :: l88))).bind fun l90 => some (enc x89 :: l90))).bind fun ds91 => (refM CS_ ((fun (S : Shf) (d : D) => putX S (D.int 2) (d)) v_shelf_55) ds91 (4)).bind fun z => some (z, ())) fun b81 y82 => some (!b81, y82)) fun b92 (u93 : Unit) => if b92 = true then ((some false)).bind (fun x94 => some (Rr.rt x94)) else (thn2 (thn2 (((((((some v_more_17)).bind fun x99 => _law_no_numbers x99)).bind fun x106 => ((((some (4 : Int))).bind fun x104 => ((((((some (4 : Int))).bind fun x100 => ((some v_more_17)).bind fun x101 => some (x100 + x101))).bind fun x102 => ((some ([] : List (D)))).bind fun l103 => some (enc x102 :: l103))).bind fun l105 => some (enc x104 :: l105))).bind fun x107 => cat? x106 x107)).bind fun ds108 => (refM CS_ ((fun (S : Shf) (d : D) => putX S (D.int 0) (d)) v_shelf_55) ds108 (5)).bind fun z => some (z, ())) fun b95 y96 => some (!b95, y96)) fun b109 (u110 : Unit) => if b109 = true then ((some false)).bind (fun x111 => some (Rr.rt x111)) else (thn2 (thn2 (((some v_books_68)).bind fun ds116 => (refM CS_ ((fun (S : Shf) (d : D) => mixX S (d) (D.non)) v_shelf_55) ds116 (4)).bind fun z => some (z, ())) fun b112 y113 => some (!b112, y113)) fun b117 (u118 : Unit) => if b117 = true then ((some false)).bind (fun x119 => some (Rr.rt x119)) else (thn2 (thn2 (thn2 (((some v_books_68)).bind fun ds126 => (refM CS_ ((fun (S : Shf) (d : D) => mixX S (D.int 2) (d)) v_shelf_55) ds126 (4)).bind fun z => some (z, ())) fun b122 y123 => some (!b122, y123)) fun b120 (y121 : Unit) => if b120 = true then some (true, y121) else ((((((some v_shelf_55)).bind fun x128 => _law_state x128)).bind fun x129 => ((some v_before_67)).bind fun x130 => (eqD? (Enc.enc x129) (Enc.enc x130)).bind fun b => some (!b))).bind fun x131 => some (x131, y121)) fun b132 (u133 : Unit) => if b132 = true then ((some false)).bind (fun x134 => some (Rr.rt x134)) else (thn2 (thn2 (thn2 (((some (2 : Int))).bind fun x139 => ((some (2 : Int))).bind fun x140 => Shelf_mix v_shelf_55 x139 x140) fun b137 (y138 : Shf) => ((((some (1 : Int))).bind fun x141 => some (some x141))).bind fun x142 => some (!decide (b137 = x142), y138)) fun b135 (y136 : Shf) => if b135 = true then some (true, y136) else (thn2 (thn2 (((some (1 : Int))).bind fun x147 => ((some (0 : Int))).bind fun x148 => Shelf_mix y136 x147 x148) fun b145 (y146 : Shf) => ((((some (2 : Int))).bind fun x149 => some (some x149))).bind fun x150 => some (!decide (b145 = x150), y146)) fun b143 (y144 : Shf) => if b143 = true then some (true, y144) else (thn2 (thn2 (((some (1 : Int))).bind fun x155 => ((some (1 : Int))).bind fun x156 => Shelf_put y144 x155 x156) fun b153 (y154 : Shf) => ((((some (0 : Int))).bind fun x157 => some (some x157))).bind fun x158 => some (!decide (b153 = x158), y154)) fun b151 (y152 : Shf) => if b151 = true then some (true, y152) else (thn2 (((some (1 : Int))).bind fun x161 => ((some (1 : Int))).bind fun x162 => Shelf_put y152 x161 x162) fun b159 (y160 : Shf) => ((((some (0 : Int))).bind fun x163 => some (some x163))).bind fun x164 => some (!decide (b159 = x164), y160))))) fun b165 (v_shelf_166 : Shf) => if b165 = true then ((some false)).bind (fun x167 => some (Rr.rt x167)) else (((((((((some v_shelf_166)).bind fun x169 =>  pick [6] (shf_cls x169) (ms_order_0 (shf_cls x169) x169))).bind fun x178 => ((((some (0 : Int))).bind fun x176 => ((((some (1 : Int))).bind fun x174 => ((((some (2 : Int))).bind fun x172 => ((((some (3 : Int))).bind fun x170 => ((some ([] : List (Int)))).bind fun l171 => some (x170 :: l171))).bind fun l173 => some (x172 :: l173))).bind fun l175 => some (x174 :: l175))).bind fun l177 => some (x176 :: l177))).bind fun x179 => some (!decide (x178 = x179)))).bind fun x201 => if x201 = true then some true else (((((((some v_shelf_166)).bind fun x181 =>  pick [6] (shf_cls x181) (ms_spent_0 (shf_cls x181) x181))).bind fun x182 => ((some (13 : Int))).bind fun x183 => some (!decide (x182 = x183)))).bind fun x200 => if x200 = true then some true else (((((some v_shelf_166)).bind fun x185 =>  pick [6] (shf_cls x185) (ms_plan_0 (shf_cls x185) x185))).bind fun x198 => ((((((some (3 : Int))).bind fun x186 => ((some (3 : Int))).bind fun x187 => some (x186, x187))).bind fun x196 => ((((((some (1 : Int))).bind fun x188 => ((some (1 : Int))).bind fun x189 => some (x188, x189))).bind fun x194 => ((((((some (1 : Int))).bind fun x190 => ((some (1 : Int))).bind fun x191 => some (x190, x191))).bind fun x192 => ((some ([] : List ((Int) × (Int))))).bind fun l193 => some (x192 :: l193))).bind fun l195 => some (x194 :: l195))).bind fun l197 => some (x196 :: l197))).bind fun x199 => some (!decide (x198 = x199)))))).bind fun b202 => if b202 = true then ((some false)).bind (fun x203 => some (Rr.rt x203)) else (some (Rr.nx ())))))))))))))) () l204).bind (Rr.goR fun (s1 : Unit) => (some true)))
end Fw

set_option pp.maxSteps 200
set_option Elab.async false
set_option maxRecDepth 100000
set_option maxHeartbeats 20000000
set_option linter.all false
namespace Fw
open PySem L2 PU
open PU.Enc
def top (i : Nat) : Stmt := PySem.Challenge.pw_fewtakings_k12_refused_shelves.main.body.getD i (.Pass ⟨0, 0, 0, 0⟩)
structure Csts (p : Pm) (mg : Str → Option Value) : Prop where
  MOST_WEIGHT : ∃ t, mg "MOST_WEIGHT" = some (.int 9 t)
  cls_6 : ClF p mg 6 "Shelf"
  MOST_BOOKS : ∃ t, mg "MOST_BOOKS" = some (.int 24 t)
  na_6_done : NoAttr p.K (p.cl 6) "done"
  na_6_paid : NoAttr p.K (p.cl 6) "paid"
  na_6_nailed : NoAttr p.K (p.cl 6) "nailed"
  na_6_weights : NoAttr p.K (p.cl 6) "weights"
  na_6_books : NoAttr p.K (p.cl 6) "books"
  err_10 : ErrF p mg 10 "BadOrder"
  err_11 : ErrF p mg 11 "BadWeights"
  err_12 : ErrF p mg 12 "BadNailed"
  err_13 : ErrF p mg 13 "BadPlan"
  err_14 : ErrR p mg 14 "BadBook"
  err_15 : ErrR p mg 15 "BadPlace"
  err_16 : ErrF p mg 16 "BookError"
  no_ve : mg "ValueError" = none

section
variable {P : Program} {w : World} {p : Pm} {mg : Str → Option Value} {base : Heap}
/-! ## heights -/
abbrev s_heights : Stmt := top 18
theorem sc_heights : FnScope ["order", "weights", "found", "at", "book", "best", "ahead", "spot"] ["order", "weights"] (defScope s_heights) := ⟨rfl, rfl, rfl, by decide +kernel, rfl, by decide +kernel, by decide +kernel⟩
theorem ok_heights {fa : Addr} {fd : FuncData} (T : Blt mg) (C_ : Csts p mg)  (F : Fun p.K "heights" "heights" s_heights fa fd) : FnOk P w p.K mg base CX0 1 fa fd ["order", "weights"] (sp2 p true heights) := by
  refine def_ok (n := 6) F sc_heights (fun _ => rfl) rfl fun cdv A outer s H E hr => ?_
  apply Exists.intro
  apply And.intro
  · exact (pss_cons (ps_set (i := 2) sc_heights.nd rfl (by first | exact Or.inl rfl | exact Or.inr rfl) (pe_lst pa_nil)) (pss_cons (ps_for PassesOwn.never rfl (xi_enum p.K (by rfl) T.enumerate (pa_cons (pv 0) pa_nil)) (xg_tup (n := 2) p.K rfl (pgs_cons (pg_name (i := 3) sc_heights.nd rfl (by first | exact Or.inl rfl | exact Or.inr rfl)) (pgs_cons (pg_name (i := 4) sc_heights.nd rfl (by first | exact Or.inl rfl | exact Or.inr rfl)) pgs_nil))) (pss_cons (ps_asg (pe_tup (pa_cons pe_int (pa_cons (pe_un un_neg pe_int) pa_nil))) (xg_tup (n := 2) p.K rfl (pgs_cons (pg_name (i := 5) sc_heights.nd rfl (by first | exact Or.inl rfl | exact Or.inr rfl)) (pgs_cons (pg_name (i := 6) sc_heights.nd rfl (by first | exact Or.inl rfl | exact Or.inr rfl)) pgs_nil)))) (pss_cons (ps_for PassesOwn.never rfl (pi_range1 (by rfl) T.range (pa_cons (pv 3) pa_nil)) (pg_name (i := 7) sc_heights.nd rfl (by first | exact Or.inl rfl | exact Or.inr rfl)) (pss_cons (ps_if (PW.pt (pw_and (pt_cmpR op_lt (xe_ixL p.K (pv 0) (pv 7) (fun _ _ => rfl)) (pv 4) (nomark _)) (pw_and1 (pt_cmpR op_gt (xe_ixT p.K (xe_ixL p.K (pv 2) (pv 7) (fun _ _ => rfl)) pe_int (fun _ _ => rfl)) (pv 5) (nomark _))))) (pss_cons (ps_par (i := 5) (j := 6) rfl sc_heights.nd rfl rfl (by decide) rfl rfl (pa_cons (xe_ixT p.K (xe_ixL p.K (pv 2) (pv 7) (fun _ _ => rfl)) pe_int (fun _ _ => rfl)) (pa_cons (pv 7) pa_nil)) (by rfl)) pss_nil) pss_nil) pss_nil)) (pss_cons (ps_expr (xe_append p.K (pv 2) (pa_cons (pe_tup (pa_cons (pe_op op_add (pv 5) (xe_ixL p.K (pv 1) (pv 4) (fun _ _ => rfl))) (pa_cons (pv 6) pa_nil))) pa_nil))) pss_nil)))) (pss_one (ps_ret (pv 2)))))
  rintro ⟨v_order, v_weights⟩
  show Bk p _ [.va (enc (v_order : List (Int))), .va (enc (v_weights : List (Int))), .fr, .fr, .fr, .fr, .fr, .fr] (heights v_order v_weights) _
  unfold heights
  exact (k_asg (ev_lst es_nil) (fun v_found_1 => (k_seq (k_for (envS := fun (s2 : (List ((Int) × (Int)))) => [.va (enc (v_order : List (Int))), .va (enc (v_weights : List (Int))), .ow (List.map enc (s2 : List ((Int) × (Int)))), .fr, .fr, .fr, .fr, .fr]) (ei_enum (ev_var rfl)) (le_r (le_r (le_r (le_f (le_f (le_f (le_f (le_f le_nil)))))))) (fun _ _ => (tg_tup (tgs_cons tg_name (tgs_cons tg_name tgs_nil)))) (fun s2 a4 => (k_tup ev_int (ev_neg ev_int) (fun v_best_6 v_ahead_7 => (k_seq (k_for (envS := fun (s8 : (Int) × (Int)) => [.va (enc (v_order : List (Int))), .va (enc (v_weights : List (Int))), .ow (List.map enc (s2 : List ((Int) × (Int)))), .va (enc (a4.1 : Int)), .va (enc (a4.2 : Int)), .va (enc (s8.1 : Int)), .va (enc (s8.2 : Int)), .fr]) (ei_range1 (ev_var rfl)) (le_r (le_r (le_r (le_r (le_r (le_r (le_r (le_f le_nil)))))))) (fun _ _ => tg_name) (fun s8 a10 => (k_seq (envN := fun (s25 : (Int) × (Int)) => [.va (enc (v_order : List (Int))), .va (enc (v_weights : List (Int))), .ow (List.map enc (s2 : List ((Int) × (Int)))), .va (enc (a4.1 : Int)), .va (enc (a4.2 : Int)), .va (enc (s25.1 : Int)), .va (enc (s25.2 : Int)), .va (enc (a10 : Int))]) (k_if (et_and (et_test (ev_lt (ev_ixL (ev_var rfl) (ev_var rfl)) (ev_var rfl))) (et_test (ev_gt (ev_fst (own_ix rfl (ev_var rfl))) (ev_var rfl)))) (k_par (ev_fst (own_ix rfl (ev_var rfl))) (ev_var rfl) (fun v_best_23 v_ahead_24 => (k_end (le_r (le_r (le_r (le_r (le_r (le_r (le_r (le_r le_nil))))))))))) (k_end (le_r (le_r (le_r (le_r (le_r (le_r (le_r (le_r le_nil)))))))))) (fun s25 => (k_end (le_r (le_r (le_r (le_r (le_r (le_r (le_r (le_f le_nil))))))))))))) (fun s8 => (k_app rfl (ev_tup2 (ev_add (ev_var rfl) (ev_ixL (ev_var rfl) (ev_var rfl))) (ev_var rfl)) (fun v_found_27 => (k_end (le_r (le_r (le_r (le_f (le_f (le_f (le_f (le_f le_nil))))))))))))))))) (fun s2 => (k_retO rfl)))))
theorem cal_heights (T : Blt mg) (C_ : Csts p mg)  (D_ : Df p.K mg "heights" s_heights) : Cal P w p.K mg base "heights" 1 ["order", "weights"] (sp2 p true heights) := by
  obtain ⟨fa, fd, F, hm⟩ := D_.ex
  exact ⟨fa, fd, ok_heights T C_  F, hm, F.kp, F.binds fun _ _ _ _ _ _ us hl => match us, hl with | [_, _], _ => rfl⟩

/-! ## staying -/
abbrev s_staying : Stmt := top 19
theorem sc_staying : FnScope ["order", "weights", "tall", "at", "found", "row"] ["order", "weights"] (defScope s_staying) := ⟨rfl, rfl, rfl, by decide +kernel, rfl, by decide +kernel, by decide +kernel⟩
theorem ok_staying {fa : Addr} {fd : FuncData} (T : Blt mg) (C_ : Csts p mg) (c_heights : Cal P w p.K mg base "heights" 1 ["order", "weights"] (sp2 p true heights)) (F : Fun p.K "staying" "staying" s_staying fa fd) : FnOk P w p.K mg base CX0 2 fa fd ["order", "weights"] (sp2 p true staying) := by
  refine def_ok (n := 4) F sc_staying (fun _ => rfl) rfl fun cdv A outer s H E hr => ?_
  apply Exists.intro
  apply And.intro
  · exact (pss_cons (ps_set (i := 2) sc_staying.nd rfl (by first | exact Or.inl rfl | exact Or.inr rfl) (pe_cal c_heights (hr.mono (by decide)) (by rfl) (pa_cons (pv 0) (pa_cons (pv 1) pa_nil)))) (pss_cons (ps_if (pt_cmpR (xo_eqD p.K hr.units) (pv 2) (pe_lst pa_nil) (nomark _)) (pss_one (ps_ret (pe_lst pa_nil))) pss_nil) (pss_cons (ps_set (i := 3) sc_staying.nd rfl (by first | exact Or.inl rfl | exact Or.inr rfl) (xe_index p.K (by refine' pe_lc (own := [("row", 5)]) rfl sc_staying.nd ?h10i (blkOk_by (N := ["order", "weights", "tall", "at", "found", "row"]) (sc := defScope s_staying) (by decide +kernel)) ?h10g ?h10t ?h10e; (case h10i => exact (xi_list p.K (pv 2))); (case h10g => intro _ _ _ _ _; exact (pg_name (i := 5) sc_staying.nd rfl (by first | exact Or.inl rfl | exact Or.inr rfl))); (case h10t => intro _ _ _ _ _; exact pts_nil); (case h10e => intro _ _ _ _ _; exact (xe_ixT p.K (pv 5) pe_int (fun _ _ => rfl)))) (pa_cons (pe_callB (xc_max p.K) (by rfl) T.max bs_max (pa_cons (by refine' pe_lc (own := [("row", 5)]) rfl sc_staying.nd ?h14i (blkOk_by (N := ["order", "weights", "tall", "at", "found", "row"]) (sc := defScope s_staying) (by decide +kernel)) ?h14g ?h14t ?h14e; (case h14i => exact (xi_list p.K (pv 2))); (case h14g => intro _ _ _ _ _; exact (pg_name (i := 5) sc_staying.nd rfl (by first | exact Or.inl rfl | exact Or.inr rfl))); (case h14t => intro _ _ _ _ _; exact pts_nil); (case h14e => intro _ _ _ _ _; exact (xe_ixT p.K (pv 5) pe_int (fun _ _ => rfl)))) pa_nil)) pa_nil))) (pss_cons (ps_set (i := 4) sc_staying.nd rfl (by first | exact Or.inl rfl | exact Or.inr rfl) (pe_lst pa_nil)) (pss_cons (ps_while PassesOwn.never (pt_cmpR op_ge (pv 3) pe_int (nomark _)) (pss_cons (ps_expr (xe_append p.K (pv 4) (pa_cons (xe_ixL p.K (pv 0) (pv 3) (fun _ _ => rfl)) pa_nil))) (pss_cons (ps_set (i := 3) sc_staying.nd rfl (by first | exact Or.inl rfl | exact Or.inr rfl) (xe_ixT p.K (xe_ixL p.K (pv 2) (pv 3) (fun _ _ => rfl)) pe_int (fun _ _ => rfl))) pss_nil))) (pss_one (ps_ret (xe_rev p.K (pv 4)))))))))
  rintro ⟨v_order, v_weights⟩
  show Bk p _ [.va (enc (v_order : List (Int))), .va (enc (v_weights : List (Int))), .fr, .fr, .fr, .fr] (staying v_order v_weights) _
  unfold staying
  exact (k_asg ((ev_call2 (ev_var rfl) (ev_var rfl))).weak (fun v_tall_3 => (k_ifR (et_test (ev_eqD (ev_var rfl) ((ev_lst es_nil)).weak)) (k_ret (ev_lst es_nil)) (k_asg (ev_index ((ev_lc (ei_list (ev_var rfl)) (fun _ => tg_name) (fun _ h => h) (fun _ => et_yes) (fun _ => (ev_fst (ev_var rfl))))).weak (ev_max ((ev_lc (ei_list (ev_var rfl)) (fun _ => tg_name) (fun _ h => h) (fun _ => et_yes) (fun _ => (ev_fst (ev_var rfl))))).weak)) (fun v_at_18 => (k_asg (ev_lst es_nil) (fun v_found_19 => (k_seq (k_while (envS := fun (s20 : (Int) × (List (Int))) => [.va (enc (v_order : List (Int))), .va (enc (v_weights : List (Int))), .va (enc (v_tall_3 : List ((Int) × (Int)))), .va (enc (s20.1 : Int)), .ow (List.map enc (s20.2 : List (Int))), .fr]) (le_r (le_r (le_r (le_r (le_r (le_f le_nil)))))) (fun s20 => (et_test (ev_ge (ev_var rfl) ev_int))) (fun s20 => (k_app rfl (ev_ixL (ev_var rfl) (ev_var rfl)) (fun v_found_23 => (k_asg (ev_snd (ev_ixL (ev_var rfl) (ev_var rfl))) (fun v_at_30 => (k_end (le_r (le_r (le_r (le_r (le_r (le_f le_nil))))))))))))) (fun s20 => (k_freeze (i := 4) rfl (k_ret (ev_rev (ev_var rfl)))))))))))))
theorem cal_staying (T : Blt mg) (C_ : Csts p mg) (c_heights : Cal P w p.K mg base "heights" 1 ["order", "weights"] (sp2 p true heights)) (D_ : Df p.K mg "staying" s_staying) : Cal P w p.K mg base "staying" 2 ["order", "weights"] (sp2 p true staying) := by
  obtain ⟨fa, fd, F, hm⟩ := D_.ex
  exact ⟨fa, fd, ok_staying T C_ c_heights F, hm, F.kp, F.binds fun _ _ _ _ _ _ us hl => match us, hl with | [_, _], _ => rfl⟩

/-! ## stand_right -/
abbrev s_stand_right : Stmt := top 20
theorem sc_stand_right : FnScope ["order", "one", "other"] ["order", "one", "other"] (defScope s_stand_right) := ⟨rfl, rfl, rfl, by decide +kernel, rfl, by decide +kernel, by decide +kernel⟩
theorem ok_stand_right {fa : Addr} {fd : FuncData} (T : Blt mg) (C_ : Csts p mg)  (F : Fun p.K "stand_right" "stand_right" s_stand_right fa fd) : FnOk P w p.K mg base CX0 1 fa fd ["order", "one", "other"] (sp3 p false stand_right) := by
  refine def_ok (n := 0) F sc_stand_right (fun _ => rfl) rfl fun cdv A outer s H E hr => ?_
  apply Exists.intro
  apply And.intro
  · exact (pss_one (ps_ret (pe_or (pe_cmpR op_eq (pv 1) (pv 2) (nomark _)) (pe_one (pe_cmpR op_eq (pe_cmpR op_lt (xe_index p.K (pv 0) (pa_cons (pv 1) pa_nil)) (xe_index p.K (pv 0) (pa_cons (pv 2) pa_nil)) (nomark _)) (pe_cmpR op_lt (pv 1) (pv 2) (nomark _)) (nomark _))))))
  rintro ⟨v_order, v_one, v_other⟩
  show Bk p _ [.va (enc (v_order : List (Int))), .va (enc (v_one : Int)), .va (enc (v_other : Int))] (stand_right v_order v_one v_other) _
  unfold stand_right
  exact (k_ret (ev_or (ev_eqS (ev_var rfl) (ev_var rfl)) (ev_eqS (ev_lt (ev_index (ev_var rfl) (ev_var rfl)) (ev_index (ev_var rfl) (ev_var rfl))) (ev_lt (ev_var rfl) (ev_var rfl)))))
theorem cal_stand_right (T : Blt mg) (C_ : Csts p mg)  (D_ : Df p.K mg "stand_right" s_stand_right) : Cal P w p.K mg base "stand_right" 1 ["order", "one", "other"] (sp3 p false stand_right) := by
  obtain ⟨fa, fd, F, hm⟩ := D_.ex
  exact ⟨fa, fd, ok_stand_right T C_  F, hm, F.kp, F.binds fun _ _ _ _ _ _ us hl => match us, hl with | [_, _, _], _ => rfl⟩

/-! ## free_ones -/
abbrev s_free_ones : Stmt := top 21
theorem sc_free_ones : FnScope ["order", "nailed", "book", "one"] ["order", "nailed"] (defScope s_free_ones) := ⟨rfl, rfl, rfl, by decide +kernel, rfl, by decide +kernel, by decide +kernel⟩
theorem ok_free_ones {fa : Addr} {fd : FuncData} (T : Blt mg) (C_ : Csts p mg) (c_stand_right : Cal P w p.K mg base "stand_right" 1 ["order", "one", "other"] (sp3 p false stand_right)) (F : Fun p.K "free_ones" "free_ones" s_free_ones fa fd) : FnOk P w p.K mg base CX0 2 fa fd ["order", "nailed"] (sp2 p true free_ones) := by
  refine def_ok (n := 2) F sc_free_ones (fun _ => rfl) rfl fun cdv A outer s H E hr => ?_
  apply Exists.intro
  apply And.intro
  · exact (pss_one (ps_ret (by refine' pe_lc (own := [("book", 2)]) rfl sc_free_ones.nd ?h10i (blkOk_by (N := ["order", "nailed", "book", "one"]) (sc := defScope s_free_ones) (by decide +kernel)) ?h10g ?h10t ?h10e; (case h10i => exact (xi_list p.K (pv 0))); (case h10g => intro _ _ _ _ _; exact (pg_name (i := 2) sc_free_ones.nd rfl (by first | exact Or.inl rfl | exact Or.inr rfl))); (case h10t => intro _ _ _ _ _; exact (pts_one (pt_val (pe_callB (xc_all p.K) (by rfl) T.all bs_all (pa_cons (by refine' pe_lc (own := [("one", 3)]) rfl sc_free_ones.nd ?h7i (blkOk_by (by kernel_rfl)) ?h7g ?h7t ?h7e; (case h7i => exact (xi_list p.K (pv 1))); (case h7g => intro _ _ _ _ _; exact (pg_name (i := 3) sc_free_ones.nd rfl (by first | exact Or.inl rfl | exact Or.inr rfl))); (case h7t => intro _ _ _ _ _; exact pts_nil); (case h7e => intro _ _ _ _ _; exact (pe_cal c_stand_right (hr.mono (by decide)) (by rfl) (pa_cons (pv 0) (pa_cons (pv 2) (pa_cons (pv 3) pa_nil)))))) pa_nil))))); (case h10e => intro _ _ _ _ _; exact (pv 2)))))
  rintro ⟨v_order, v_nailed⟩
  show Bk p _ [.va (enc (v_order : List (Int))), .va (enc (v_nailed : List (Int))), .fr, .fr] (free_ones v_order v_nailed) _
  unfold free_ones
  exact (k_ret (ev_lc (ei_list (ev_var rfl)) (fun _ => tg_name) (fun _ h => h) (fun _ => (et_B (ev_all ((ev_lc (ei_list (ev_var rfl)) (fun _ => tg_name) (fun _ h => h) (fun _ => et_yes) (fun _ => (ev_call3 (ev_var rfl) (ev_var rfl) (ev_var rfl))))).weak))) (fun _ => (ev_var rfl))))
theorem cal_free_ones (T : Blt mg) (C_ : Csts p mg) (c_stand_right : Cal P w p.K mg base "stand_right" 1 ["order", "one", "other"] (sp3 p false stand_right)) (D_ : Df p.K mg "free_ones" s_free_ones) : Cal P w p.K mg base "free_ones" 2 ["order", "nailed"] (sp2 p true free_ones) := by
  obtain ⟨fa, fd, F, hm⟩ := D_.ex
  exact ⟨fa, fd, ok_free_ones T C_ c_stand_right F, hm, F.kp, F.binds fun _ _ _ _ _ _ us hl => match us, hl with | [_, _], _ => rfl⟩

/-! ## clash -/
abbrev s_clash : Stmt := top 22
theorem sc_clash : FnScope ["order", "nailed", "one", "other"] ["order", "nailed"] (defScope s_clash) := ⟨rfl, rfl, rfl, by decide +kernel, rfl, by decide +kernel, by decide +kernel⟩
theorem ok_clash {fa : Addr} {fd : FuncData} (T : Blt mg) (C_ : Csts p mg) (c_stand_right : Cal P w p.K mg base "stand_right" 1 ["order", "one", "other"] (sp3 p false stand_right)) (F : Fun p.K "clash" "clash" s_clash fa fd) : FnOk P w p.K mg base CX0 2 fa fd ["order", "nailed"] (sp2 p false clash) := by
  refine def_ok (n := 2) F sc_clash (fun _ => rfl) rfl fun cdv A outer s H E hr => ?_
  apply Exists.intro
  apply And.intro
  · exact (pss_cons (ps_for PassesOwn.never rfl (xi_list p.K (pv 1)) (pg_name (i := 2) sc_clash.nd rfl (by first | exact Or.inl rfl | exact Or.inr rfl)) (pss_cons (ps_for PassesOwn.never rfl (xi_list p.K (pv 1)) (pg_name (i := 3) sc_clash.nd rfl (by first | exact Or.inl rfl | exact Or.inr rfl)) (pss_cons (ps_if (PW.pt (pw_and (pt_cmpR op_lt (pv 2) (pv 3) (nomark _)) (pw_and1 (pt_not (pt_val (pe_cal c_stand_right (hr.mono (by decide)) (by rfl) (pa_cons (pv 0) (pa_cons (pv 2) (pa_cons (pv 3) pa_nil))))))))) (pss_one (ps_ret (pe_tup (pa_cons (pv 2) (pa_cons (pv 3) pa_nil))))) pss_nil) pss_nil)) pss_nil)) (pss_one (ps_ret pe_non)))
  rintro ⟨v_order, v_nailed⟩
  show Bk p _ [.va (enc (v_order : List (Int))), .va (enc (v_nailed : List (Int))), .fr, .fr] (clash v_order v_nailed) _
  unfold clash
  exact (k_seqR (k_forB (envS := fun (s1 : Unit) => [.va (enc (v_order : List (Int))), .va (enc (v_nailed : List (Int))), .fr, .fr]) (ei_list (ev_var rfl)) (le_r (le_r (le_f (le_f le_nil)))) (fun _ _ => tg_name) (fun s1 a2 => (k_seqB (k_forB (envS := fun (s3 : Unit) => [.va (enc (v_order : List (Int))), .va (enc (v_nailed : List (Int))), .va (enc (a2 : Int)), .fr]) (ei_list (ev_var rfl)) (le_r (le_r (le_r (le_f le_nil)))) (fun _ _ => tg_name) (fun s3 a4 => (k_ifB (et_and (et_test (ev_lt (ev_var rfl) (ev_var rfl))) (et_not (et_B (ev_call3 (ev_var rfl) (ev_var rfl) (ev_var rfl))))) (k_ret (ev_some (ev_tup2 (ev_var rfl) (ev_var rfl)))) (k_endB (le_r (le_r (le_r (le_f le_nil)))))))) (fun s3 => (k_endB (le_r (le_r (le_f (le_f le_nil))))))))) (fun s1 => (k_ret ev_nonO)))
theorem cal_clash (T : Blt mg) (C_ : Csts p mg) (c_stand_right : Cal P w p.K mg base "stand_right" 1 ["order", "one", "other"] (sp3 p false stand_right)) (D_ : Df p.K mg "clash" s_clash) : Cal P w p.K mg base "clash" 2 ["order", "nailed"] (sp2 p false clash) := by
  obtain ⟨fa, fd, F, hm⟩ := D_.ex
  exact ⟨fa, fd, ok_clash T C_ c_stand_right F, hm, F.kp, F.binds fun _ _ _ _ _ _ us hl => match us, hl with | [_, _], _ => rfl⟩

/-! ## weight_of -/
abbrev s_weight_of : Stmt := top 26
theorem sc_weight_of : FnScope ["weights", "books", "book"] ["weights", "books"] (defScope s_weight_of) := ⟨rfl, rfl, rfl, by decide +kernel, rfl, by decide +kernel, by decide +kernel⟩
theorem ok_weight_of {fa : Addr} {fd : FuncData} (T : Blt mg) (C_ : Csts p mg)  (F : Fun p.K "weight_of" "weight_of" s_weight_of fa fd) : FnOk P w p.K mg base CX0 1 fa fd ["weights", "books"] (sp2 p false weight_of) := by
  refine def_ok (n := 1) F sc_weight_of (fun _ => rfl) rfl fun cdv A outer s H E hr => ?_
  apply Exists.intro
  apply And.intro
  · exact (pss_one (ps_ret (pe_callB (xc_sum p.K) (by rfl) T.sum bs_sum (pa_cons (by refine' pe_lc (own := [("book", 2)]) rfl sc_weight_of.nd ?h5i (blkOk_by (N := ["weights", "books", "book"]) (sc := defScope s_weight_of) (by decide +kernel)) ?h5g ?h5t ?h5e; (case h5i => exact (xi_list p.K (pv 1))); (case h5g => intro _ _ _ _ _; exact (pg_name (i := 2) sc_weight_of.nd rfl (by first | exact Or.inl rfl | exact Or.inr rfl))); (case h5t => intro _ _ _ _ _; exact pts_nil); (case h5e => intro _ _ _ _ _; exact (xe_ixL p.K (pv 0) (pv 2) (fun _ _ => rfl)))) pa_nil))))
  rintro ⟨v_weights, v_books⟩
  show Bk p _ [.va (enc (v_weights : List (Int))), .va (enc (v_books : List (Int))), .fr] (weight_of v_weights v_books) _
  unfold weight_of
  exact (k_ret (ev_sum ((ev_lc (ei_list (ev_var rfl)) (fun _ => tg_name) (fun _ h => h) (fun _ => et_yes) (fun _ => (ev_ixL (ev_var rfl) (ev_var rfl))))).weak))
theorem cal_weight_of (T : Blt mg) (C_ : Csts p mg)  (D_ : Df p.K mg "weight_of" s_weight_of) : Cal P w p.K mg base "weight_of" 1 ["weights", "books"] (sp2 p false weight_of) := by
  obtain ⟨fa, fd, F, hm⟩ := D_.ex
  exact ⟨fa, fd, ok_weight_of T C_  F, hm, F.kp, F.binds fun _ _ _ _ _ _ us hl => match us, hl with | [_, _], _ => rfl⟩

/-! ## owed_by -/
abbrev s_owed_by : Stmt := top 23
theorem sc_owed_by : FnScope ["order", "weights", "nailed"] ["order", "weights", "nailed"] (defScope s_owed_by) := ⟨rfl, rfl, rfl, by decide +kernel, rfl, by decide +kernel, by decide +kernel⟩
theorem ok_owed_by {fa : Addr} {fd : FuncData} (T : Blt mg) (C_ : Csts p mg) (c_clash : Cal P w p.K mg base "clash" 2 ["order", "nailed"] (sp2 p false clash)) (c_free_ones : Cal P w p.K mg base "free_ones" 2 ["order", "nailed"] (sp2 p true free_ones)) (c_staying : Cal P w p.K mg base "staying" 2 ["order", "weights"] (sp2 p true staying)) (c_weight_of : Cal P w p.K mg base "weight_of" 1 ["weights", "books"] (sp2 p false weight_of)) (F : Fun p.K "owed_by" "owed_by" s_owed_by fa fd) : FnOk P w p.K mg base CX0 3 fa fd ["order", "weights", "nailed"] (sp3 p false owed_by) := by
  refine def_ok (n := 0) F sc_owed_by (fun _ => rfl) rfl fun cdv A outer s H E hr => ?_
  apply Exists.intro
  apply And.intro
  · exact (pss_cons (ps_if (pt_cmpR op_notN (pe_cal c_clash (hr.mono (by decide)) (by rfl) (pa_cons (pv 0) (pa_cons (pv 2) pa_nil))) pe_non (nomark _)) (pss_one (ps_ret pe_non)) pss_nil) (pss_one (ps_ret (pe_op op_sub (pe_callB (xc_sum p.K) (by rfl) T.sum bs_sum (pa_cons (pv 1) pa_nil)) (pe_cal c_weight_of (hr.mono (by decide)) (by rfl) (pa_cons (pv 1) (pa_cons (pe_cal c_staying (hr.mono (by decide)) (by rfl) (pa_cons (pe_cal c_free_ones (hr.mono (by decide)) (by rfl) (pa_cons (pv 0) (pa_cons (pv 2) pa_nil))) (pa_cons (pv 1) pa_nil))) pa_nil)))))))
  rintro ⟨v_order, v_weights, v_nailed⟩
  show Bk p _ [.va (enc (v_order : List (Int))), .va (enc (v_weights : List (Int))), .va (enc (v_nailed : List (Int)))] (owed_by v_order v_weights v_nailed) _
  unfold owed_by
  exact (k_ifR (et_test (ev_notN (ev_call2 (ev_var rfl) (ev_var rfl)))) (k_ret ev_nonO) (k_ret (ev_some (ev_sub (ev_sum (ev_var rfl)) (ev_call2 (ev_var rfl) ((ev_call2 ((ev_call2 (ev_var rfl) (ev_var rfl))).weak (ev_var rfl))).weak)))))
theorem cal_owed_by (T : Blt mg) (C_ : Csts p mg) (c_clash : Cal P w p.K mg base "clash" 2 ["order", "nailed"] (sp2 p false clash)) (c_free_ones : Cal P w p.K mg base "free_ones" 2 ["order", "nailed"] (sp2 p true free_ones)) (c_staying : Cal P w p.K mg base "staying" 2 ["order", "weights"] (sp2 p true staying)) (c_weight_of : Cal P w p.K mg base "weight_of" 1 ["weights", "books"] (sp2 p false weight_of)) (D_ : Df p.K mg "owed_by" s_owed_by) : Cal P w p.K mg base "owed_by" 3 ["order", "weights", "nailed"] (sp3 p false owed_by) := by
  obtain ⟨fa, fd, F, hm⟩ := D_.ex
  exact ⟨fa, fd, ok_owed_by T C_ c_clash c_free_ones c_staying c_weight_of F, hm, F.kp, F.binds fun _ _ _ _ _ _ us hl => match us, hl with | [_, _, _], _ => rfl⟩

/-! ## put_at -/
abbrev s_put_at : Stmt := top 24
theorem sc_put_at : FnScope ["order", "book", "place", "rest", "one"] ["order", "book", "place"] (defScope s_put_at) := ⟨rfl, rfl, rfl, by decide +kernel, rfl, by decide +kernel, by decide +kernel⟩
theorem ok_put_at {fa : Addr} {fd : FuncData} (T : Blt mg) (C_ : Csts p mg)  (F : Fun p.K "put_at" "put_at" s_put_at fa fd) : FnOk P w p.K mg base CX0 1 fa fd ["order", "book", "place"] (sp3 p true put_at) := by
  refine def_ok (n := 2) F sc_put_at (fun _ => rfl) rfl fun cdv A outer s H E hr => ?_
  apply Exists.intro
  apply And.intro
  · exact (pss_cons (by refine' ps_setLc (i := 3) (own := [("one", 4)]) rfl sc_put_at.nd rfl rfl (sw_true rfl rfl rfl (by decide +kernel)) ?h5i (blkOk_by (N := ["order", "book", "place", "rest", "one"]) (sc := defScope s_put_at) (by decide +kernel)) ?h5g ?h5t ?h5e; (case h5i => exact (xi_list p.K (pv 0))); (case h5g => intro _ _ _ _ _; exact (pg_name (i := 4) sc_put_at.nd rfl (by first | exact Or.inl rfl | exact Or.inr rfl))); (case h5t => intro _ _ _ _ _; exact (pts_one (pt_cmpR op_ne (pv 4) (pv 1) (nomark _)))); (case h5e => intro _ _ _ _ _; exact (pv 4))) (pss_one (ps_ret (pe_op op_cat (pe_op op_cat (pe_slice (xs_list p.K) (pv 3) po_none (po_some (pv 2))) (pe_lst (pa_cons (pv 1) pa_nil))) (pe_slice (xs_list p.K) (pv 3) (po_some (pv 2)) po_none)))))
  rintro ⟨v_order, v_book, v_place⟩
  show Bk p _ [.va (enc (v_order : List (Int))), .va (enc (v_book : Int)), .va (enc (v_place : Int)), .fr, .fr] (put_at v_order v_book v_place) _
  unfold put_at
  exact (k_asg ((ev_lc (ei_list (ev_var rfl)) (fun _ => tg_name) (fun _ h => h) (fun _ => (et_test (ev_neS (ev_var rfl) (ev_var rfl)))) (fun _ => (ev_var rfl)))).weak (fun v_rest_6 => (k_ret (ev_cat ((ev_cat ((ev_slice (ev_var rfl) eo_none (eo_some (ev_var rfl)))).weak ((ev_lst (es_cons (ev_var rfl) es_nil))).weak)).weak ((ev_slice (ev_var rfl) (eo_some (ev_var rfl)) eo_none)).weak))))
theorem cal_put_at (T : Blt mg) (C_ : Csts p mg)  (D_ : Df p.K mg "put_at" s_put_at) : Cal P w p.K mg base "put_at" 1 ["order", "book", "place"] (sp3 p true put_at) := by
  obtain ⟨fa, fd, F, hm⟩ := D_.ex
  exact ⟨fa, fd, ok_put_at T C_  F, hm, F.kp, F.binds fun _ _ _ _ _ _ us hl => match us, hl with | [_, _, _], _ => rfl⟩

/-! ## place_among -/
abbrev s_place_among : Stmt := top 25
theorem sc_place_among : FnScope ["order", "book", "settled", "rest", "lesser", "one"] ["order", "book", "settled"] (defScope s_place_among) := ⟨rfl, rfl, rfl, by decide +kernel, rfl, by decide +kernel, by decide +kernel⟩
theorem ok_place_among {fa : Addr} {fd : FuncData} (T : Blt mg) (C_ : Csts p mg)  (F : Fun p.K "place_among" "place_among" s_place_among fa fd) : FnOk P w p.K mg base CX0 1 fa fd ["order", "book", "settled"] (sp3 p false place_among) := by
  refine def_ok (n := 3) F sc_place_among (fun _ => rfl) rfl fun cdv A outer s H E hr => ?_
  apply Exists.intro
  apply And.intro
  · exact (pss_cons (ps_par (i := 3) (j := 4) rfl sc_place_among.nd rfl rfl (by decide) rfl rfl (pa_cons (by refine' pe_lc (own := [("one", 5)]) rfl sc_place_among.nd ?h5i (blkOk_by (N := ["order", "book", "settled", "rest", "lesser", "one"]) (sc := defScope s_place_among) (by decide +kernel)) ?h5g ?h5t ?h5e; (case h5i => exact (xi_list p.K (pv 0))); (case h5g => intro _ _ _ _ _; exact (pg_name (i := 5) sc_place_among.nd rfl (by first | exact Or.inl rfl | exact Or.inr rfl))); (case h5t => intro _ _ _ _ _; exact (pts_one (pt_cmpR op_ne (pv 5) (pv 1) (nomark _)))); (case h5e => intro _ _ _ _ _; exact (pv 5))) (pa_cons (by refine' pe_lc (own := [("one", 5)]) rfl sc_place_among.nd ?h10i (blkOk_by (N := ["order", "book", "settled", "rest", "lesser", "one"]) (sc := defScope s_place_among) (by decide +kernel)) ?h10g ?h10t ?h10e; (case h10i => exact (xi_list p.K (pv 2))); (case h10g => intro _ _ _ _ _; exact (pg_name (i := 5) sc_place_among.nd rfl (by first | exact Or.inl rfl | exact Or.inr rfl))); (case h10t => intro _ _ _ _ _; exact (pts_one (pt_cmpR op_lt (pv 5) (pv 1) (nomark _)))); (case h10e => intro _ _ _ _ _; exact (pv 5))) pa_nil)) (by rfl)) (pss_one (ps_ret (pe_ifExp (pt_cmpR (xo_neD p.K hr.units) (pv 4) (pe_lst pa_nil) (nomark _)) (pe_op op_add (xe_index p.K (pv 3) (pa_cons (pe_callB (xc_max p.K) (by rfl) T.max bs_max (pa_cons (pv 4) pa_nil)) pa_nil)) pe_int) pe_int))))
  rintro ⟨v_order, v_book, v_settled⟩
  show Bk p _ [.va (enc (v_order : List (Int))), .va (enc (v_book : Int)), .va (enc (v_settled : List (Int))), .fr, .fr, .fr] (place_among v_order v_book v_settled) _
  unfold place_among
  exact (k_par ((ev_lc (ei_list (ev_var rfl)) (fun _ => tg_name) (fun _ h => h) (fun _ => (et_test (ev_neS (ev_var rfl) (ev_var rfl)))) (fun _ => (ev_var rfl)))).weak ((ev_lc (ei_list (ev_var rfl)) (fun _ => tg_name) (fun _ h => h) (fun _ => (et_test (ev_lt (ev_var rfl) (ev_var rfl)))) (fun _ => (ev_var rfl)))).weak (fun v_rest_11 v_lesser_12 => (k_ret (ev_if (et_test (ev_neD (ev_var rfl) ((ev_lst es_nil)).weak)) (ev_add (ev_index (ev_var rfl) (ev_max (ev_var rfl))) ev_int) ev_int))))
theorem cal_place_among (T : Blt mg) (C_ : Csts p mg)  (D_ : Df p.K mg "place_among" s_place_among) : Cal P w p.K mg base "place_among" 1 ["order", "book", "settled"] (sp3 p false place_among) := by
  obtain ⟨fa, fd, F, hm⟩ := D_.ex
  exact ⟨fa, fd, ok_place_among T C_  F, hm, F.kp, F.binds fun _ _ _ _ _ _ us hl => match us, hl with | [_, _, _], _ => rfl⟩

/-! ## is_whole -/
abbrev s_is_whole : Stmt := top 11
theorem sc_is_whole : FnScope ["thing"] ["thing"] (defScope s_is_whole) := ⟨rfl, rfl, rfl, by decide +kernel, rfl, by decide +kernel, by decide +kernel⟩
theorem ok_is_whole {fa : Addr} {fd : FuncData} (T : Blt mg) (C_ : Csts p mg)  (F : Fun p.K "is_whole" "is_whole" s_is_whole fa fd) : FnOk P w p.K mg base CX0 1 fa fd ["thing"] (sp1 p false is_whole) := by
  refine def_ok (n := 0) F sc_is_whole (fun _ => rfl) rfl fun cdv A outer s H E hr => ?_
  apply Exists.intro
  apply And.intro
  · exact (pss_one (ps_ret (pe_and (pe_callB (xc_isi p.K) (by rfl) T.isinstance bs_isinstance (pa_cons (pv 0) (pa_cons (pe_bltn (v := .ty "int") (by rfl) T.int bs_int rfl) pa_nil))) (pe_one (pe_not (pe_callB (xc_isi p.K) (by rfl) T.isinstance bs_isinstance (pa_cons (pv 0) (pa_cons (pe_bltn (v := .ty "bool") (by rfl) T.bool bs_bool rfl) pa_nil))))))))
  intro v_thing
  show Bk p _ [.va (enc (v_thing : Int))] (is_whole v_thing) _
  unfold is_whole
  exact (k_ret (ev_and (ev_isi (ev_var rfl) (by decide +kernel)) (ev_not (ev_isi (ev_var rfl) (by decide +kernel)))))
theorem cal_is_whole (T : Blt mg) (C_ : Csts p mg)  (D_ : Df p.K mg "is_whole" s_is_whole) : Cal P w p.K mg base "is_whole" 1 ["thing"] (sp1 p false is_whole) := by
  obtain ⟨fa, fd, F, hm⟩ := D_.ex
  exact ⟨fa, fd, ok_is_whole T C_  F, hm, F.kp, F.binds fun _ _ _ _ _ _ us hl => match us, hl with | [_], _ => rfl⟩

/-! ## is_between -/
abbrev s_is_between : Stmt := top 12
theorem sc_is_between : FnScope ["thing", "least", "most"] ["thing", "least", "most"] (defScope s_is_between) := ⟨rfl, rfl, rfl, by decide +kernel, rfl, by decide +kernel, by decide +kernel⟩
theorem ok_is_between {fa : Addr} {fd : FuncData} (T : Blt mg) (C_ : Csts p mg) (c_is_whole : Cal P w p.K mg base "is_whole" 1 ["thing"] (sp1 p false is_whole)) (F : Fun p.K "is_between" "is_between" s_is_between fa fd) : FnOk P w p.K mg base CX0 2 fa fd ["thing", "least", "most"] (sp3 p false is_between) := by
  refine def_ok (n := 0) F sc_is_between (fun _ => rfl) rfl fun cdv A outer s H E hr => ?_
  apply Exists.intro
  apply And.intro
  · exact (pss_one (ps_ret (pe_and (pe_cal c_is_whole (hr.mono (by decide)) (by rfl) (pa_cons (pv 0) pa_nil)) (pe_one (pe_chain op_le op_le (pv 1) (pv 0) (pv 2))))))
  rintro ⟨v_thing, v_least, v_most⟩
  show Bk p _ [.va (enc (v_thing : Int)), .va (enc (v_least : Int)), .va (enc (v_most : Int))] (is_between v_thing v_least v_most) _
  unfold is_between
  exact (k_ret (ev_and (ev_call1 (ev_var rfl)) (ev_chain (h := (fun (i j : Int) => decide (i ≤ j))) (h' := (fun (i j : Int) => decide (i ≤ j))) (fun _ _ => rfl) (fun _ _ => rfl) (ev_var rfl) (ev_var rfl) (ev_var rfl))))
theorem cal_is_between (T : Blt mg) (C_ : Csts p mg) (c_is_whole : Cal P w p.K mg base "is_whole" 1 ["thing"] (sp1 p false is_whole)) (D_ : Df p.K mg "is_between" s_is_between) : Cal P w p.K mg base "is_between" 2 ["thing", "least", "most"] (sp3 p false is_between) := by
  obtain ⟨fa, fd, F, hm⟩ := D_.ex
  exact ⟨fa, fd, ok_is_between T C_ c_is_whole F, hm, F.kp, F.binds fun _ _ _ _ _ _ us hl => match us, hl with | [_, _, _], _ => rfl⟩

/-! ## are_books -/
abbrev s_are_books : Stmt := top 13
theorem sc_are_books : FnScope ["thing", "many", "book"] ["thing", "many"] (defScope s_are_books) := ⟨rfl, rfl, rfl, by decide +kernel, rfl, by decide +kernel, by decide +kernel⟩
theorem ok_are_books {fa : Addr} {fd : FuncData} (T : Blt mg) (C_ : Csts p mg) (c_is_whole : Cal P w p.K mg base "is_whole" 1 ["thing"] (sp1 p false is_whole)) (F : Fun p.K "are_books" "are_books" s_are_books fa fd) : FnOk P w p.K mg base CX0 2 fa fd ["thing", "many"] (sp2 p false are_books) := by
  refine def_ok (n := 1) F sc_are_books (fun _ => rfl) rfl fun cdv A outer s H E hr => ?_
  apply Exists.intro
  apply And.intro
  · exact (pss_cons (ps_if (PW.pt (pw_or (pt_not (pt_val (pe_callB (xc_isi p.K) (by rfl) T.isinstance bs_isinstance (pa_cons (pv 0) (pa_cons (pe_bltn (v := .ty "list") (by rfl) T.list bs_list rfl) pa_nil))))) (pw_or1 (pt_not (pt_val (pe_callB (xc_all p.K) (by rfl) T.all bs_all (pa_cons (by refine' pe_lc (own := [("book", 2)]) rfl sc_are_books.nd ?h5i (blkOk_by (N := ["thing", "many", "book"]) (sc := defScope s_are_books) (by decide +kernel)) ?h5g ?h5t ?h5e; (case h5i => exact (xi_list p.K (pv 0))); (case h5g => intro _ _ _ _ _; exact (pg_name (i := 2) sc_are_books.nd rfl (by first | exact Or.inl rfl | exact Or.inr rfl))); (case h5t => intro _ _ _ _ _; exact pts_nil); (case h5e => intro _ _ _ _ _; exact (pe_cal c_is_whole (hr.mono (by decide)) (by rfl) (pa_cons (pv 2) pa_nil)))) pa_nil))))))) (pss_one (ps_ret pe_bl)) pss_nil) (pss_one (ps_ret (pe_cmpR (xo_eqD p.K hr.units) (pe_callB (xc_sorted p.K) (by rfl) T.sorted bs_sorted (pa_cons (pv 0) pa_nil)) (pe_listRg rfl (by rfl) T.list (prg_1 (by rfl) T.range (pv 1))) (nomark _)))))
  rintro ⟨v_thing, v_many⟩
  show Bk p _ [.va (enc (v_thing : List (Int))), .va (enc (v_many : Int)), .fr] (are_books v_thing v_many) _
  unfold are_books
  exact (k_ifR (et_or (et_not (et_B (ev_isi (ev_var rfl) (by decide +kernel)))) (et_not (et_B (ev_all ((ev_lc (ei_list (ev_var rfl)) (fun _ => tg_name) (fun _ h => h) (fun _ => et_yes) (fun _ => (ev_call1 (ev_var rfl))))).weak)))) (k_ret ev_bl) (k_ret (ev_eqD ((ev_sorted (ev_var rfl))).weak ((ev_listRg (ev_var rfl))).weak)))
theorem cal_are_books (T : Blt mg) (C_ : Csts p mg) (c_is_whole : Cal P w p.K mg base "is_whole" 1 ["thing"] (sp1 p false is_whole)) (D_ : Df p.K mg "are_books" s_are_books) : Cal P w p.K mg base "are_books" 2 ["thing", "many"] (sp2 p false are_books) := by
  obtain ⟨fa, fd, F, hm⟩ := D_.ex
  exact ⟨fa, fd, ok_are_books T C_ c_is_whole F, hm, F.kp, F.binds fun _ _ _ _ _ _ us hl => match us, hl with | [_, _], _ => rfl⟩

/-! ## check_weights -/
abbrev s_check_weights : Stmt := top 14
theorem sc_check_weights : FnScope ["many", "weights", "weight"] ["many", "weights"] (defScope s_check_weights) := ⟨rfl, rfl, rfl, by decide +kernel, rfl, by decide +kernel, by decide +kernel⟩
theorem ok_check_weights {fa : Addr} {fd : FuncData} (T : Blt mg) (C_ : Csts p mg) (c_is_between : Cal P w p.K mg base "is_between" 2 ["thing", "least", "most"] (sp3 p false is_between)) (F : Fun p.K "check_weights" "check_weights" s_check_weights fa fd) : FnOk P w p.K mg base CX0 3 fa fd ["many", "weights"] (sp2 p false check_weights) := by
  refine def_okU (n := 1) F sc_check_weights (fun _ => rfl) rfl fun cdv A outer s H E hr => ?_
  apply Exists.intro
  apply And.intro
  · exact (pss_cons (ps_if (PW.pt (pw_or (pt_not (pt_val (pe_callB (xc_isi p.K) (by rfl) T.isinstance bs_isinstance (pa_cons (pv 1) (pa_cons (pe_bltn (v := .ty "list") (by rfl) T.list bs_list rfl) pa_nil))))) (pw_or1 (pt_cmpR op_ne (pe_callB (xc_len p.K) (by rfl) T.len bs_len (pa_cons (pv 1) pa_nil)) (pv 0) (nomark _))))) (pss_one ps_never) pss_nil) (pss_cons (ps_if (pt_not (pt_val (pe_callB (xc_all p.K) (by rfl) T.all bs_all (pa_cons (by refine' pe_lc (own := [("weight", 2)]) rfl sc_check_weights.nd ?h13i (blkOk_by (N := ["many", "weights", "weight"]) (sc := defScope s_check_weights) (by decide +kernel)) ?h13g ?h13t ?h13e; (case h13i => exact (xi_list p.K (pv 1))); (case h13g => intro _ _ _ _ _; exact (pg_name (i := 2) sc_check_weights.nd rfl (by first | exact Or.inl rfl | exact Or.inr rfl))); (case h13t => intro _ _ _ _ _; exact pts_nil); (case h13e => intro _ _ _ _ _; exact (pe_cal c_is_between (hr.mono (by decide)) (by rfl) (pa_cons (pv 2) (pa_cons pe_int (pa_cons (pe_cst C_.MOST_WEIGHT (by rfl)) pa_nil)))))) pa_nil)))) (pss_one ps_never) pss_nil) pss_nil))
  rintro ⟨v_many, v_weights⟩
  show Bk p _ [.va (enc (v_many : Int)), .va (enc (v_weights : List (Int))), .fr] (check_weights v_many v_weights) _
  unfold check_weights
  exact (k_ifX (et_or (et_not (et_B (ev_isi (ev_var rfl) (by decide +kernel)))) (et_test (ev_neS (ev_len (ev_var rfl)) (ev_var rfl)))) (k_ifX (et_not (et_B (ev_all ((ev_lc (ei_list (ev_var rfl)) (fun _ => tg_name) (fun _ h => h) (fun _ => et_yes) (fun _ => (ev_call3 (ev_var rfl) ev_int ev_int)))).weak))) k_endU))
theorem cal_check_weights (T : Blt mg) (C_ : Csts p mg) (c_is_between : Cal P w p.K mg base "is_between" 2 ["thing", "least", "most"] (sp3 p false is_between)) (D_ : Df p.K mg "check_weights" s_check_weights) : Cal P w p.K mg base "check_weights" 3 ["many", "weights"] (sp2 p false check_weights) := by
  obtain ⟨fa, fd, F, hm⟩ := D_.ex
  exact ⟨fa, fd, ok_check_weights T C_ c_is_between F, hm, F.kp, F.binds fun _ _ _ _ _ _ us hl => match us, hl with | [_, _], _ => rfl⟩

/-! ## check_all -/
abbrev s_check_all : Stmt := top 15
theorem sc_check_all : FnScope ["order", "weights", "most"] ["order", "weights", "most"] (defScope s_check_all) := ⟨rfl, rfl, rfl, by decide +kernel, rfl, by decide +kernel, by decide +kernel⟩
theorem ok_check_all {fa : Addr} {fd : FuncData} (T : Blt mg) (C_ : Csts p mg) (c_are_books : Cal P w p.K mg base "are_books" 2 ["thing", "many"] (sp2 p false are_books)) (c_check_weights : Cal P w p.K mg base "check_weights" 3 ["many", "weights"] (sp2 p false check_weights)) (F : Fun p.K "check_all" "check_all" s_check_all fa fd) : FnOk P w p.K mg base CX0 4 fa fd ["order", "weights", "most"] (sp3 p false check_all) := by
  refine def_okU (n := 0) F sc_check_all (fun _ => rfl) rfl fun cdv A outer s H E hr => ?_
  apply Exists.intro
  apply And.intro
  · exact (pss_cons (ps_if (PW.pt (pw_or (pt_not (pt_val (pe_callB (xc_isi p.K) (by rfl) T.isinstance bs_isinstance (pa_cons (pv 0) (pa_cons (pe_bltn (v := .ty "list") (by rfl) T.list bs_list rfl) pa_nil))))) (pw_or (pt_not (pt_chain op_le op_le pe_int (pe_callB (xc_len p.K) (by rfl) T.len bs_len (pa_cons (pv 0) pa_nil)) (pv 2))) (pw_or1 (pt_not (pt_val (pe_cal c_are_books (hr.mono (by decide)) (by rfl) (pa_cons (pv 0) (pa_cons (pe_callB (xc_len p.K) (by rfl) T.len bs_len (pa_cons (pv 0) pa_nil)) pa_nil))))))))) (pss_one ps_never) pss_nil) (pss_cons (ps_expr (pe_cal c_check_weights (hr.mono (by decide)) (by rfl) (pa_cons (pe_callB (xc_len p.K) (by rfl) T.len bs_len (pa_cons (pv 0) pa_nil)) (pa_cons (pv 1) pa_nil)))) pss_nil))
  rintro ⟨v_order, v_weights, v_most⟩
  show Bk p _ [.va (enc (v_order : List (Int))), .va (enc (v_weights : List (Int))), .va (enc (v_most : Int))] (check_all v_order v_weights v_most) _
  unfold check_all
  exact (k_ifX (et_or (et_not (et_B (ev_isi (ev_var rfl) (by decide +kernel)))) (et_or (et_not (et_test (ev_chain (h := (fun (i j : Int) => decide (i ≤ j))) (h' := (fun (i j : Int) => decide (i ≤ j))) (fun _ _ => rfl) (fun _ _ => rfl) ev_int (ev_len (ev_var rfl)) (ev_var rfl)))) (et_not (et_B (ev_call2 (ev_var rfl) (ev_len (ev_var rfl))))))) (k_drop (ev_call2 (ev_len (ev_var rfl)) (ev_var rfl)) (fun x17 => k_endU)))
theorem cal_check_all (T : Blt mg) (C_ : Csts p mg) (c_are_books : Cal P w p.K mg base "are_books" 2 ["thing", "many"] (sp2 p false are_books)) (c_check_weights : Cal P w p.K mg base "check_weights" 3 ["many", "weights"] (sp2 p false check_weights)) (D_ : Df p.K mg "check_all" s_check_all) : Cal P w p.K mg base "check_all" 4 ["order", "weights", "most"] (sp3 p false check_all) := by
  obtain ⟨fa, fd, F, hm⟩ := D_.ex
  exact ⟨fa, fd, ok_check_all T C_ c_are_books c_check_weights F, hm, F.kp, F.binds fun _ _ _ _ _ _ us hl => match us, hl with | [_, _, _], _ => rfl⟩

/-! ## check_nailed -/
abbrev s_check_nailed : Stmt := top 16
theorem sc_check_nailed : FnScope ["many", "nailed", "book", "one", "other"] ["many", "nailed"] (defScope s_check_nailed) := ⟨rfl, rfl, rfl, by decide +kernel, rfl, by decide +kernel, by decide +kernel⟩
theorem ok_check_nailed {fa : Addr} {fd : FuncData} (T : Blt mg) (C_ : Csts p mg) (c_is_between : Cal P w p.K mg base "is_between" 2 ["thing", "least", "most"] (sp3 p false is_between)) (F : Fun p.K "check_nailed" "check_nailed" s_check_nailed fa fd) : FnOk P w p.K mg base CX0 3 fa fd ["many", "nailed"] (sp2 p false check_nailed) := by
  refine def_okU (n := 3) F sc_check_nailed (fun _ => rfl) rfl fun cdv A outer s H E hr => ?_
  apply Exists.intro
  apply And.intro
  · exact (pss_cons (ps_if (PW.pt (pw_or (pt_not (pt_val (pe_callB (xc_isi p.K) (by rfl) T.isinstance bs_isinstance (pa_cons (pv 1) (pa_cons (pe_bltn (v := .ty "list") (by rfl) T.list bs_list rfl) pa_nil))))) (pw_or1 (pt_not (pt_val (pe_callB (xc_all p.K) (by rfl) T.all bs_all (pa_cons (by refine' pe_lc (own := [("book", 2)]) rfl sc_check_nailed.nd ?h9i (blkOk_by (N := ["many", "nailed", "book", "one", "other"]) (sc := defScope s_check_nailed) (by decide +kernel)) ?h9g ?h9t ?h9e; (case h9i => exact (xi_list p.K (pv 1))); (case h9g => intro _ _ _ _ _; exact (pg_name (i := 2) sc_check_nailed.nd rfl (by first | exact Or.inl rfl | exact Or.inr rfl))); (case h9t => intro _ _ _ _ _; exact pts_nil); (case h9e => intro _ _ _ _ _; exact (pe_cal c_is_between (hr.mono (by decide)) (by rfl) (pa_cons (pv 2) (pa_cons pe_int (pa_cons (pe_op op_sub (pv 0) pe_int) pa_nil)))))) pa_nil))))))) (pss_one ps_never) pss_nil) (pss_cons (ps_if (pt_val (pe_callB (xc_any p.K) (by rfl) T.any bs_any (pa_cons (by refine' pe_lc (own := [("one", 3), ("other", 4)]) rfl sc_check_nailed.nd ?h24i (blkOk_by (N := ["many", "nailed", "book", "one", "other"]) (sc := defScope s_check_nailed) (by decide +kernel)) ?h24g ?h24t ?h24e; (case h24i => exact (xi_zip p.K (by rfl) T.zip (pa_cons (pv 1) (pa_cons (pe_slice (xs_list p.K) (pv 1) (po_some pe_int) po_none) pa_nil)))); (case h24g => intro _ _ _ _ _; exact (xg_tup (n := 2) p.K rfl (pgs_cons (pg_name (i := 3) sc_check_nailed.nd rfl (by first | exact Or.inl rfl | exact Or.inr rfl)) (pgs_cons (pg_name (i := 4) sc_check_nailed.nd rfl (by first | exact Or.inl rfl | exact Or.inr rfl)) pgs_nil)))); (case h24t => intro _ _ _ _ _; exact pts_nil); (case h24e => intro _ _ _ _ _; exact (pe_cmpR op_ge (pv 3) (pv 4) (nomark _)))) pa_nil))) (pss_one ps_never) pss_nil) pss_nil))
  rintro ⟨v_many, v_nailed⟩
  show Bk p _ [.va (enc (v_many : Int)), .va (enc (v_nailed : List (Int))), .fr, .fr, .fr] (check_nailed v_many v_nailed) _
  unfold check_nailed
  exact (k_ifX (et_or (et_not (et_B (ev_isi (ev_var rfl) (by decide +kernel)))) (et_not (et_B (ev_all ((ev_lc (ei_list (ev_var rfl)) (fun _ => tg_name) (fun _ h => h) (fun _ => et_yes) (fun _ => (ev_call3 (ev_var rfl) ev_int (ev_sub (ev_var rfl) ev_int))))).weak)))) (k_ifX (et_B (ev_any ((ev_lc (ei_zip (ev_var rfl) ((ev_slice (ev_var rfl) (eo_some ev_int) eo_none)).weak) (fun _ => (tg_tup (tgs_cons tg_name (tgs_cons tg_name tgs_nil)))) (fun _ h => h) (fun _ => et_yes) (fun _ => (ev_ge (ev_var rfl) (ev_var rfl))))).weak)) k_endU))
theorem cal_check_nailed (T : Blt mg) (C_ : Csts p mg) (c_is_between : Cal P w p.K mg base "is_between" 2 ["thing", "least", "most"] (sp3 p false is_between)) (D_ : Df p.K mg "check_nailed" s_check_nailed) : Cal P w p.K mg base "check_nailed" 3 ["many", "nailed"] (sp2 p false check_nailed) := by
  obtain ⟨fa, fd, F, hm⟩ := D_.ex
  exact ⟨fa, fd, ok_check_nailed T C_ c_is_between F, hm, F.kp, F.binds fun _ _ _ _ _ _ us hl => match us, hl with | [_, _], _ => rfl⟩

/-! ## Shelf.__init__ -/
abbrev s_Shelf_init : Stmt := inClass (top 28) 0
theorem sc_Shelf_init : FnScope ["self", "order", "weights", "nailed"] ["self", "order", "weights", "nailed"] (defScope s_Shelf_init) := ⟨rfl, rfl, rfl, by decide +kernel, rfl, by decide +kernel, by decide +kernel⟩
theorem cal_Shelf (T : Blt mg) (C_ : Csts p mg) (c_check_all : Cal P w p.K mg base "check_all" 4 ["order", "weights", "most"] (sp3 p false check_all)) (c_check_nailed : Cal P w p.K mg base "check_nailed" 3 ["many", "nailed"] (sp2 p false check_nailed)) (D_ : Di p.K (p.cl 6) "Shelf.__init__" s_Shelf_init) : Mak P w p.K mg base "Shelf" (p.cl 6) 5 ["self", "order", "weights", "nailed"] (spI3 p 6 mk_Shelf) := by
  obtain ⟨fa, fd, F, M⟩ := D_.ex
  refine ⟨fa, fd, M, ?_, C_.cls_6.at_, F.binds fun _ _ _ _ _ _ us hl => match us, hl with | [_, _, _, _], _ => rfl⟩
  refine init_ok (n := 0) F sc_Shelf_init (fun _ => rfl) rfl fun cdv A outer s H E hr => ?_
  apply Exists.intro
  apply And.intro
  · exact (pss_cons (ps_expr (pe_cal c_check_all (hr.mono (by decide)) (by rfl) (pa_cons (pv 1) (pa_cons (pv 2) (pa_cons (pe_cst C_.MOST_BOOKS (by rfl)) pa_nil))))) (pss_cons (ps_expr (pe_cal c_check_nailed (hr.mono (by decide)) (by rfl) (pa_cons (pe_callB (xc_len p.K) (by rfl) T.len bs_len (pa_cons (pv 1) pa_nil)) (pa_cons (pv 3) pa_nil)))) (pss_cons (ps_fld (pv 0) (pe_callTy (xc_list p.K) (by rfl) T.list bs_list (pa_cons (pv 1) pa_nil)) rfl) (pss_cons (ps_fld (pv 0) (pe_callTy (xc_list p.K) (by rfl) T.list bs_list (pa_cons (pv 2) pa_nil)) rfl) (pss_cons (ps_fld (pv 0) (pe_callTy (xc_list p.K) (by rfl) T.list bs_list (pa_cons (pv 3) pa_nil)) rfl) (pss_cons (ps_fld (pv 0) pe_int rfl) (pss_cons (ps_fld (pv 0) (pe_lst pa_nil) rfl) pss_nil)))))))
  intro y
  rintro ⟨v_order, v_weights, v_nailed⟩
  show Bk p _ [.rs (dnAt y (.ins 6 [])), .va (enc (v_order : List (Int))), .va (enc (v_weights : List (Int))), .va (enc (v_nailed : List (Int)))] (mk_Shelf v_order v_weights v_nailed) _
  unfold mk_Shelf
  exact (k_drop (ev_call3 (ev_var rfl) (ev_var rfl) ev_int) (fun _ => (k_drop (ev_call2 (ev_len (ev_var rfl)) (ev_var rfl)) (fun _ => (k_fldN rfl C_.cls_6.cls C_.na_6_books rfl (by show 0 < 1000; decide) (en_own (ev_list (ev_var rfl))) (fun _ => (k_fldN rfl C_.cls_6.cls C_.na_6_weights ((lk1 (by decide +kernel)).trans rfl) (by show 1 < 1000; decide) (en_own (ev_list (ev_var rfl))) (fun _ => (k_fldN rfl C_.cls_6.cls C_.na_6_nailed ((lk1 (by decide +kernel)).trans ((lk1 (by decide +kernel)).trans rfl)) (by show 2 < 1000; decide) (en_own (ev_list (ev_var rfl))) (fun _ => (k_fldN rfl C_.cls_6.cls C_.na_6_paid ((lk1 (by decide +kernel)).trans ((lk1 (by decide +kernel)).trans ((lk1 (by decide +kernel)).trans rfl))) (by show 3 < 1000; decide) (en_imm ev_int) (fun _ => (k_fldN rfl C_.cls_6.cls C_.na_6_done ((lk1 (by decide +kernel)).trans ((lk1 (by decide +kernel)).trans ((lk1 (by decide +kernel)).trans ((lk1 (by decide +kernel)).trans rfl)))) (by show 4 < 1000; decide) (en_own (ev_lst es_nil)) (fun _ => (k_endI rfl rfl)))))))))))))))

/-! ## Shelf_owed -/
abbrev s_Shelf_owed : Stmt := inClass (top 28) 1
theorem sc_Shelf_owed : FnScope ["self"] ["self"] (defScope s_Shelf_owed) := ⟨rfl, rfl, rfl, by decide +kernel, rfl, by decide +kernel, by decide +kernel⟩
theorem ok_Shelf_owed {fa : Addr} {fd : FuncData} (T : Blt mg) (C_ : Csts p mg) (c_owed_by : Cal P w p.K mg base "owed_by" 3 ["order", "weights", "nailed"] (sp3 p false owed_by)) (F : Fun p.K "owed" "Shelf.owed" s_Shelf_owed fa fd) : FnOk P w p.K mg base CX0 4 fa fd ["self"] (sp1 p false Shelf_owed) := by
  refine def_ok (n := 0) F sc_Shelf_owed (fun _ => rfl) rfl fun cdv A outer s H E hr => ?_
  apply Exists.intro
  apply And.intro
  · exact (pss_one (ps_ret (pe_cal c_owed_by (hr.mono (by decide)) (by rfl) (pa_cons (xe_fld p.K (pv 0)) (pa_cons (xe_fld p.K (pv 0)) (pa_cons (xe_fld p.K (pv 0)) pa_nil))))))
  intro v_self
  show Bk p _ [.va (enc (v_self : Shf))] (Shelf_owed v_self) _
  unfold Shelf_owed
  exact (k_ret (ev_call3 (ev_shf (ev_var rfl) lk_books C_.cls_6.cls C_.na_6_books) (ev_shf (ev_var rfl) lk_weights C_.cls_6.cls C_.na_6_weights) (ev_shf (ev_var rfl) lk_nailed C_.cls_6.cls C_.na_6_nailed)))

theorem mts_owed_0 (T : Blt mg) (C_ : Csts p mg) (c_owed_by : Cal P w p.K mg base "owed_by" 3 ["order", "weights", "nailed"] (sp3 p false owed_by)) (D_Shelf_owed : Dm p.K (p.cl 6) "owed" "Shelf.owed" s_Shelf_owed) : Mts P w p.K mg base "owed" 4 (mS0 p false [6] ms_owed_0) := by
  refine ⟨fun C sp h => ?_⟩
  obtain ⟨c, hc, rfl, rfl⟩ := h
  simp only [List.mem_cons, List.not_mem_nil, or_false] at hc
  rcases hc with rfl
  · obtain ⟨fa, fd, F, hm⟩ := D_Shelf_owed.ex
    exact ⟨fa, fd, ["self"], 4, C_.cls_6.cls, hm, ok_Shelf_owed T C_ c_owed_by F, F.binds fun _ _ _ _ _ _ us hl => match us, hl with | [_], _ => rfl, by decide⟩

/-! ## Shelf_order -/
abbrev s_Shelf_order : Stmt := inClass (top 28) 6
theorem sc_Shelf_order : FnScope ["self"] ["self"] (defScope s_Shelf_order) := ⟨rfl, rfl, rfl, by decide +kernel, rfl, by decide +kernel, by decide +kernel⟩
theorem ok_Shelf_order {fa : Addr} {fd : FuncData} (T : Blt mg) (C_ : Csts p mg)  (F : Fun p.K "order" "Shelf.order" s_Shelf_order fa fd) : FnOk P w p.K mg base CX0 1 fa fd ["self"] (sp1 p true Shelf_order) := by
  refine def_ok (n := 0) F sc_Shelf_order (fun _ => rfl) rfl fun cdv A outer s H E hr => ?_
  apply Exists.intro
  apply And.intro
  · exact (pss_one (ps_ret (pe_callTy (xc_list p.K) (by rfl) T.list bs_list (pa_cons (xe_fld p.K (pv 0)) pa_nil))))
  intro v_self
  show Bk p _ [.va (enc (v_self : Shf))] (Shelf_order v_self) _
  unfold Shelf_order
  exact (k_ret (ev_list (ev_shf (ev_var rfl) lk_books C_.cls_6.cls C_.na_6_books)))

theorem mts_order_0 (T : Blt mg) (C_ : Csts p mg)  (D_Shelf_order : Dm p.K (p.cl 6) "order" "Shelf.order" s_Shelf_order) : Mts P w p.K mg base "order" 1 (mS0 p true [6] ms_order_0) := by
  refine ⟨fun C sp h => ?_⟩
  obtain ⟨c, hc, rfl, rfl⟩ := h
  simp only [List.mem_cons, List.not_mem_nil, or_false] at hc
  rcases hc with rfl
  · obtain ⟨fa, fd, F, hm⟩ := D_Shelf_order.ex
    exact ⟨fa, fd, ["self"], 1, C_.cls_6.cls, hm, ok_Shelf_order T C_  F, F.binds fun _ _ _ _ _ _ us hl => match us, hl with | [_], _ => rfl, by decide⟩

/-! ## Shelf_spent -/
abbrev s_Shelf_spent : Stmt := inClass (top 28) 7
theorem sc_Shelf_spent : FnScope ["self"] ["self"] (defScope s_Shelf_spent) := ⟨rfl, rfl, rfl, by decide +kernel, rfl, by decide +kernel, by decide +kernel⟩
theorem ok_Shelf_spent {fa : Addr} {fd : FuncData} (T : Blt mg) (C_ : Csts p mg)  (F : Fun p.K "spent" "Shelf.spent" s_Shelf_spent fa fd) : FnOk P w p.K mg base CX0 1 fa fd ["self"] (sp1 p false Shelf_spent) := by
  refine def_ok (n := 0) F sc_Shelf_spent (fun _ => rfl) rfl fun cdv A outer s H E hr => ?_
  apply Exists.intro
  apply And.intro
  · exact (pss_one (ps_ret (xe_fld p.K (pv 0))))
  intro v_self
  show Bk p _ [.va (enc (v_self : Shf))] (Shelf_spent v_self) _
  unfold Shelf_spent
  exact (k_ret (ev_shf (ev_var rfl) lk_paid C_.cls_6.cls C_.na_6_paid))

theorem mts_spent_0 (T : Blt mg) (C_ : Csts p mg)  (D_Shelf_spent : Dm p.K (p.cl 6) "spent" "Shelf.spent" s_Shelf_spent) : Mts P w p.K mg base "spent" 1 (mS0 p false [6] ms_spent_0) := by
  refine ⟨fun C sp h => ?_⟩
  obtain ⟨c, hc, rfl, rfl⟩ := h
  simp only [List.mem_cons, List.not_mem_nil, or_false] at hc
  rcases hc with rfl
  · obtain ⟨fa, fd, F, hm⟩ := D_Shelf_spent.ex
    exact ⟨fa, fd, ["self"], 1, C_.cls_6.cls, hm, ok_Shelf_spent T C_  F, F.binds fun _ _ _ _ _ _ us hl => match us, hl with | [_], _ => rfl, by decide⟩

/-! ## Shelf_plan -/
abbrev s_Shelf_plan : Stmt := inClass (top 28) 8
theorem sc_Shelf_plan : FnScope ["self"] ["self"] (defScope s_Shelf_plan) := ⟨rfl, rfl, rfl, by decide +kernel, rfl, by decide +kernel, by decide +kernel⟩
theorem ok_Shelf_plan {fa : Addr} {fd : FuncData} (T : Blt mg) (C_ : Csts p mg)  (F : Fun p.K "plan" "Shelf.plan" s_Shelf_plan fa fd) : FnOk P w p.K mg base CX0 1 fa fd ["self"] (sp1 p true Shelf_plan) := by
  refine def_ok (n := 0) F sc_Shelf_plan (fun _ => rfl) rfl fun cdv A outer s H E hr => ?_
  apply Exists.intro
  apply And.intro
  · exact (pss_one (ps_ret (pe_callTy (xc_list p.K) (by rfl) T.list bs_list (pa_cons (xe_fld p.K (pv 0)) pa_nil))))
  intro v_self
  show Bk p _ [.va (enc (v_self : Shf))] (Shelf_plan v_self) _
  unfold Shelf_plan
  exact (k_ret (ev_list (ev_shf (ev_var rfl) lk_done C_.cls_6.cls C_.na_6_done)))

theorem mts_plan_0 (T : Blt mg) (C_ : Csts p mg)  (D_Shelf_plan : Dm p.K (p.cl 6) "plan" "Shelf.plan" s_Shelf_plan) : Mts P w p.K mg base "plan" 1 (mS0 p true [6] ms_plan_0) := by
  refine ⟨fun C sp h => ?_⟩
  obtain ⟨c, hc, rfl, rfl⟩ := h
  simp only [List.mem_cons, List.not_mem_nil, or_false] at hc
  rcases hc with rfl
  · obtain ⟨fa, fd, F, hm⟩ := D_Shelf_plan.ex
    exact ⟨fa, fd, ["self"], 1, C_.cls_6.cls, hm, ok_Shelf_plan T C_  F, F.binds fun _ _ _ _ _ _ us hl => match us, hl with | [_], _ => rfl, by decide⟩

/-! ## Shelf_helpful -/
abbrev s_Shelf_helpful : Stmt := inClass (top 28) 5
theorem sc_Shelf_helpful : FnScope ["self", "settled", "book"] ["self"] (defScope s_Shelf_helpful) := ⟨rfl, rfl, rfl, by decide +kernel, rfl, by decide +kernel, by decide +kernel⟩
theorem ok_Shelf_helpful {fa : Addr} {fd : FuncData} (T : Blt mg) (C_ : Csts p mg) (c_clash : Cal P w p.K mg base "clash" 2 ["order", "nailed"] (sp2 p false clash)) (c_free_ones : Cal P w p.K mg base "free_ones" 2 ["order", "nailed"] (sp2 p true free_ones)) (c_place_among : Cal P w p.K mg base "place_among" 1 ["order", "book", "settled"] (sp3 p false place_among)) (c_staying : Cal P w p.K mg base "staying" 2 ["order", "weights"] (sp2 p true staying)) (F : Fun p.K "helpful" "Shelf.helpful" s_Shelf_helpful fa fd) : FnOk P w p.K mg base CX0 3 fa fd ["self"] (sp1 p false Shelf_helpful) := by
  refine def_ok (n := 2) F sc_Shelf_helpful (fun _ => rfl) rfl fun cdv A outer s H E hr => ?_
  apply Exists.intro
  apply And.intro
  · exact (pss_cons (ps_if (pt_cmpR op_notN (pe_cal c_clash (hr.mono (by decide)) (by rfl) (pa_cons (xe_fld p.K (pv 0)) (pa_cons (xe_fld p.K (pv 0)) pa_nil))) pe_non (nomark _)) (pss_one (ps_ret pe_non)) pss_nil) (pss_cons (ps_set (i := 1) sc_Shelf_helpful.nd rfl (by first | exact Or.inl rfl | exact Or.inr rfl) (pe_cal c_staying (hr.mono (by decide)) (by rfl) (pa_cons (pe_cal c_free_ones (hr.mono (by decide)) (by rfl) (pa_cons (xe_fld p.K (pv 0)) (pa_cons (xe_fld p.K (pv 0)) pa_nil))) (pa_cons (xe_fld p.K (pv 0)) pa_nil)))) (pss_cons (ps_for PassesOwn.never rfl (pi_range1 (by rfl) T.range (pa_cons (pe_callB (xc_len p.K) (by rfl) T.len bs_len (pa_cons (xe_fld p.K (pv 0)) pa_nil)) pa_nil)) (pg_name (i := 2) sc_Shelf_helpful.nd rfl (by first | exact Or.inl rfl | exact Or.inr rfl)) (pss_cons (ps_if (pt_cmpR (xo_notIn p.K) (pv 2) (pv 1) rfl) (pss_one (ps_ret (pe_tup (pa_cons (pv 2) (pa_cons (pe_cal c_place_among (hr.mono (by decide)) (by rfl) (pa_cons (xe_fld p.K (pv 0)) (pa_cons (pv 2) (pa_cons (pv 1) pa_nil)))) pa_nil))))) pss_nil) pss_nil)) (pss_one (ps_ret pe_non)))))
  intro v_self
  show Bk p _ [.va (enc (v_self : Shf)), .fr, .fr] (Shelf_helpful v_self) _
  unfold Shelf_helpful
  exact (k_ifR (et_test (ev_notN (ev_call2 (ev_shf (ev_var rfl) lk_books C_.cls_6.cls C_.na_6_books) (ev_shf (ev_var rfl) lk_nailed C_.cls_6.cls C_.na_6_nailed)))) (k_ret ev_nonO) (k_asg ((ev_call2 ((ev_call2 (ev_shf (ev_var rfl) lk_books C_.cls_6.cls C_.na_6_books) (ev_shf (ev_var rfl) lk_nailed C_.cls_6.cls C_.na_6_nailed))).weak (ev_shf (ev_var rfl) lk_weights C_.cls_6.cls C_.na_6_weights))).weak (fun v_settled_14 => (k_seqR (k_forB (envS := fun (s15 : Unit) => [.va (enc (v_self : Shf)), .va (enc (v_settled_14 : List (Int))), .fr]) (ei_range1 (ev_len (ev_shf (ev_var rfl) lk_books C_.cls_6.cls C_.na_6_books))) (le_r (le_r (le_f le_nil))) (fun _ _ => tg_name) (fun s15 a19 => (k_ifB (et_test (ev_notIn (ev_var rfl) (ev_var rfl))) (k_ret (ev_some (ev_tup2 (ev_var rfl) (ev_call3 (ev_shf (ev_var rfl) lk_books C_.cls_6.cls C_.na_6_books) (ev_var rfl) (ev_var rfl))))) (k_endB (le_r (le_r (le_f le_nil))))))) (fun s15 => (k_ret ev_nonO))))))

theorem mts_helpful_0 (T : Blt mg) (C_ : Csts p mg) (c_clash : Cal P w p.K mg base "clash" 2 ["order", "nailed"] (sp2 p false clash)) (c_free_ones : Cal P w p.K mg base "free_ones" 2 ["order", "nailed"] (sp2 p true free_ones)) (c_place_among : Cal P w p.K mg base "place_among" 1 ["order", "book", "settled"] (sp3 p false place_among)) (c_staying : Cal P w p.K mg base "staying" 2 ["order", "weights"] (sp2 p true staying)) (D_Shelf_helpful : Dm p.K (p.cl 6) "helpful" "Shelf.helpful" s_Shelf_helpful) : Mts P w p.K mg base "helpful" 3 (mS0 p false [6] ms_helpful_0) := by
  refine ⟨fun C sp h => ?_⟩
  obtain ⟨c, hc, rfl, rfl⟩ := h
  simp only [List.mem_cons, List.not_mem_nil, or_false] at hc
  rcases hc with rfl
  · obtain ⟨fa, fd, F, hm⟩ := D_Shelf_helpful.ex
    exact ⟨fa, fd, ["self"], 3, C_.cls_6.cls, hm, ok_Shelf_helpful T C_ c_clash c_free_ones c_place_among c_staying F, F.binds fun _ _ _ _ _ _ us hl => match us, hl with | [_], _ => rfl, by decide⟩

/-! ## Shelf_check -/
abbrev s_Shelf_check : Stmt := inClass (top 28) 2
theorem sc_Shelf_check : FnScope ["self", "book"] ["self", "book"] (defScope s_Shelf_check) := ⟨rfl, rfl, rfl, by decide +kernel, rfl, by decide +kernel, by decide +kernel⟩
theorem ok_Shelf_check {fa : Addr} {fd : FuncData} (T : Blt mg) (C_ : Csts p mg) (c_is_between : Cal P w p.K mg base "is_between" 2 ["thing", "least", "most"] (sp3 p false is_between)) (F : Fun p.K "check" "Shelf.check" s_Shelf_check fa fd) : FnOk P w p.K mg base CX0 3 fa fd ["self", "book"] (sp2 p false Shelf_check) := by
  refine def_okU (n := 0) F sc_Shelf_check (fun _ => rfl) rfl fun cdv A outer s H E hr => ?_
  apply Exists.intro
  apply And.intro
  · exact (pss_cons (ps_if (pt_not (pt_val (pe_cal c_is_between (hr.mono (by decide)) (by rfl) (pa_cons (pv 1) (pa_cons pe_int (pa_cons (pe_op op_sub (pe_callB (xc_len p.K) (by rfl) T.len bs_len (pa_cons (xe_fld p.K (pv 0)) pa_nil)) pe_int) pa_nil)))))) (pss_one ps_never) pss_nil) pss_nil)
  rintro ⟨v_self, v_book⟩
  show Bk p _ [.va (enc (v_self : Shf)), .va (enc (v_book : Int))] (Shelf_check v_self v_book) _
  unfold Shelf_check
  exact (k_ifX (et_not (et_B (ev_call3 (ev_var rfl) ev_int (ev_sub (ev_len (ev_shf (ev_var rfl) lk_books C_.cls_6.cls C_.na_6_books)) ev_int)))) k_endU)

theorem mts_check_1 (T : Blt mg) (C_ : Csts p mg) (c_is_between : Cal P w p.K mg base "is_between" 2 ["thing", "least", "most"] (sp3 p false is_between)) (D_Shelf_check : Dm p.K (p.cl 6) "check" "Shelf.check" s_Shelf_check) : Mts P w p.K mg base "check" 3 (mS1 p false [6] ms_check_1) := by
  refine ⟨fun C sp h => ?_⟩
  obtain ⟨c, hc, rfl, rfl⟩ := h
  simp only [List.mem_cons, List.not_mem_nil, or_false] at hc
  rcases hc with rfl
  · obtain ⟨fa, fd, F, hm⟩ := D_Shelf_check.ex
    exact ⟨fa, fd, ["self", "book"], 3, C_.cls_6.cls, hm, ok_Shelf_check T C_ c_is_between F, F.binds fun _ _ _ _ _ _ us hl => match us, hl with | [_, _], _ => rfl, by decide⟩

/-! ## Shelf_put -/
abbrev s_Shelf_put : Stmt := inClass (top 28) 3
theorem sc_Shelf_put : FnScope ["self", "book", "place"] ["self", "book", "place"] (defScope s_Shelf_put) := ⟨rfl, rfl, rfl, by decide +kernel, rfl, by decide +kernel, by decide +kernel⟩
theorem ok_Shelf_put {fa : Addr} {fd : FuncData} (T : Blt mg) (C_ : Csts p mg) (c_is_between : Cal P w p.K mg base "is_between" 2 ["thing", "least", "most"] (sp3 p false is_between)) (c_m_check_1 : Mts P w p.K mg base "check" 3 (mS1 p false [6] ms_check_1)) (c_m_owed_0 : Mts P w p.K mg base "owed" 4 (mS0 p false [6] ms_owed_0)) (c_put_at : Cal P w p.K mg base "put_at" 1 ["order", "book", "place"] (sp3 p true put_at)) (F : Fun p.K "put" "Shelf.put" s_Shelf_put fa fd) : FnOk P w p.K mg base CX0 5 fa fd ["self", "book", "place"] (spM2 p 0 (fun a1 a2 x => Shelf_put x a1 a2)) := by
  refine def_okM (n := 0) (j := 0) F sc_Shelf_put (fun _ => rfl) rfl fun cdv A outer s H E hr => ?_
  apply Exists.intro
  apply And.intro
  · exact (pss_cons (ps_expr (pe_mts c_m_check_1 (hr.mono (by decide)) (pv 0) (pa_cons (pv 1) pa_nil))) (pss_cons (ps_if (pt_cmpR (xo_in p.K) (pv 1) (xe_fld p.K (pv 0)) rfl) (pss_one ps_never) pss_nil) (pss_cons (ps_if (pt_not (pt_val (pe_cal c_is_between (hr.mono (by decide)) (by rfl) (pa_cons (pv 2) (pa_cons pe_int (pa_cons (pe_op op_sub (pe_callB (xc_len p.K) (by rfl) T.len bs_len (pa_cons (xe_fld p.K (pv 0)) pa_nil)) pe_int) pa_nil)))))) (pss_one ps_never) pss_nil) (pss_cons (ps_fld (pv 0) (pe_cal c_put_at (hr.mono (by decide)) (by rfl) (pa_cons (xe_fld p.K (pv 0)) (pa_cons (pv 1) (pa_cons (pv 2) pa_nil)))) rfl) (pss_cons (ps_fldaug (pv 0) (xe_ixL p.K (xe_fld p.K (pv 0)) (pv 1) (fun _ _ => rfl)) in_add) (pss_cons (ps_expr (xe_append p.K (xe_fld p.K (pv 0)) (pa_cons (pe_tup (pa_cons (pv 1) (pa_cons (pv 2) pa_nil))) pa_nil))) (pss_one (ps_ret (pe_mts0 c_m_owed_0 (hr.mono (by decide)) (pv 0))))))))))
  intro y
  rintro ⟨v_book, v_place⟩
  intro v_self
  show Bk p _ [.rs (dnAt y (enc (v_self : Shf))), .va (enc (v_book : Int)), .va (enc (v_place : Int))] (Shelf_put v_self v_book v_place) _
  unfold Shelf_put
  exact (k_drop (ev_frz (.dnAt 0 rfl .refl) (ev_meth1 (ev_var rfl) (ev_var rfl) (shf_no (by decide +kernel) (by decide +kernel) (by decide +kernel) (by decide +kernel) (by decide +kernel)))) (fun x43 => (k_ifX (et_frz (.dnAt 0 rfl .refl) (et_test (ev_in (ev_var rfl) (ev_shf (ev_var rfl) lk_nailed C_.cls_6.cls C_.na_6_nailed)))) (k_ifX (et_frz (.dnAt 0 rfl .refl) (et_not (et_B (ev_call3 (ev_var rfl) ev_int (ev_sub (ev_len (ev_shf (ev_var rfl) lk_books C_.cls_6.cls C_.na_6_books)) ev_int))))) (k_books (i := 0) (r := (dnAt y)) (y := v_self) rfl C_.cls_6.cls C_.na_6_books (en_own (ev_frzO (.dnAt 0 rfl .refl) (ev_call3 (ev_shf (ev_var rfl) lk_books C_.cls_6.cls C_.na_6_books) (ev_var rfl) (ev_var rfl)))) (fun v_self_16 => (k_paid (i := 0) (r := (dnAt y)) (y := v_self_16) rfl C_.cls_6.cls C_.na_6_paid (ev_frz (.dnAt 0 rfl .refl) (ev_ixL (ev_shf (ev_var rfl) lk_weights C_.cls_6.cls C_.na_6_weights) (ev_var rfl))) (fun v_self_23 => (k_appL rfl (lens_done lens_var C_.cls_6.cls C_.na_6_done) (en_imm (ev_tup2 (ev_var rfl) (ev_var rfl))) (fun v_self_32 => (k_retM (i := 0) rfl (ev_frz (.dnAt 0 rfl .refl) (ev_meth0 (ev_var rfl) (shf_no (by decide +kernel) (by decide +kernel) (by decide +kernel) (by decide +kernel) (by decide +kernel)))))))))))))))

theorem mts_put_2 (T : Blt mg) (C_ : Csts p mg) (c_is_between : Cal P w p.K mg base "is_between" 2 ["thing", "least", "most"] (sp3 p false is_between)) (c_m_check_1 : Mts P w p.K mg base "check" 3 (mS1 p false [6] ms_check_1)) (c_m_owed_0 : Mts P w p.K mg base "owed" 4 (mS0 p false [6] ms_owed_0)) (c_put_at : Cal P w p.K mg base "put_at" 1 ["order", "book", "place"] (sp3 p true put_at)) (D_Shelf_put : Dm p.K (p.cl 6) "put" "Shelf.put" s_Shelf_put) : Mts P w p.K mg base "put" 5 (mSM2 p 6 Shelf_put) := by
  refine ⟨fun C sp h => ?_⟩
  obtain ⟨rfl, rfl⟩ := h
  obtain ⟨fa, fd, F, hm⟩ := D_Shelf_put.ex
  exact ⟨fa, fd, ["self", "book", "place"], 5, C_.cls_6.cls, hm, ok_Shelf_put T C_ c_is_between c_m_check_1 c_m_owed_0 c_put_at F, F.binds fun _ _ _ _ _ _ us hl => match us, hl with | [_, _, _], _ => rfl, by decide⟩

/-! ## Shelf_mix -/
abbrev s_Shelf_mix : Stmt := inClass (top 28) 4
theorem sc_Shelf_mix : FnScope ["self", "one", "other", "first", "second"] ["self", "one", "other"] (defScope s_Shelf_mix) := ⟨rfl, rfl, rfl, by decide +kernel, rfl, by decide +kernel, by decide +kernel⟩
theorem ok_Shelf_mix {fa : Addr} {fd : FuncData} (T : Blt mg) (C_ : Csts p mg) (c_m_check_1 : Mts P w p.K mg base "check" 3 (mS1 p false [6] ms_check_1)) (c_m_owed_0 : Mts P w p.K mg base "owed" 4 (mS0 p false [6] ms_owed_0)) (F : Fun p.K "mix" "Shelf.mix" s_Shelf_mix fa fd) : FnOk P w p.K mg base CX0 5 fa fd ["self", "one", "other"] (spM2 p 0 (fun a1 a2 x => Shelf_mix x a1 a2)) := by
  refine def_okM (n := 2) (j := 0) F sc_Shelf_mix (fun _ => rfl) rfl fun cdv A outer s H E hr => ?_
  apply Exists.intro
  apply And.intro
  · exact (pss_cons (ps_expr (pe_mts c_m_check_1 (hr.mono (by decide)) (pv 0) (pa_cons (pv 1) pa_nil))) (pss_cons (ps_expr (pe_mts c_m_check_1 (hr.mono (by decide)) (pv 0) (pa_cons (pv 2) pa_nil))) (pss_cons (ps_par (i := 3) (j := 4) rfl sc_Shelf_mix.nd rfl rfl (by decide) rfl rfl (pa_cons (xe_index p.K (xe_fld p.K (pv 0)) (pa_cons (pv 1) pa_nil)) (pa_cons (xe_index p.K (xe_fld p.K (pv 0)) (pa_cons (pv 2) pa_nil)) pa_nil)) (by rfl)) (pss_cons (ps_asg (pv 2) (pg_sub (xe_fld p.K (pv 0)) (pv 3) set_list)) (pss_cons (ps_asg (pv 1) (pg_sub (xe_fld p.K (pv 0)) (pv 4) set_list)) (pss_one (ps_ret (pe_mts0 c_m_owed_0 (hr.mono (by decide)) (pv 0)))))))))
  intro y
  rintro ⟨v_one, v_other⟩
  intro v_self
  show Bk p _ [.rs (dnAt y (enc (v_self : Shf))), .va (enc (v_one : Int)), .va (enc (v_other : Int)), .fr, .fr] (Shelf_mix v_self v_one v_other) _
  unfold Shelf_mix
  exact (k_drop (ev_frz (.dnAt 0 rfl .refl) (ev_meth1 (ev_var rfl) (ev_var rfl) (shf_no (by decide +kernel) (by decide +kernel) (by decide +kernel) (by decide +kernel) (by decide +kernel)))) (fun x28 => (k_drop (ev_frz (.dnAt 0 rfl .refl) (ev_meth1 (ev_var rfl) (ev_var rfl) (shf_no (by decide +kernel) (by decide +kernel) (by decide +kernel) (by decide +kernel) (by decide +kernel)))) (fun x27 => (k_par (ev_frz (.dnAt 0 rfl .refl) (ev_index (ev_shf (ev_var rfl) lk_books C_.cls_6.cls C_.na_6_books) (ev_var rfl))) (ev_frz (.dnAt 0 rfl .refl) (ev_index (ev_shf (ev_var rfl) lk_books C_.cls_6.cls C_.na_6_books) (ev_var rfl))) (fun v_first_11 v_second_12 => (k_setL rfl (ev_var rfl) (lens_books lens_var C_.cls_6.cls C_.na_6_books) (tk_var rfl) (fun v_self_16 => (k_setL rfl (ev_var rfl) (lens_books lens_var C_.cls_6.cls C_.na_6_books) (tk_var rfl) (fun v_self_22 => (k_retM (i := 0) rfl (ev_frz (.dnAt 0 rfl .refl) (ev_meth0 (ev_var rfl) (shf_no (by decide +kernel) (by decide +kernel) (by decide +kernel) (by decide +kernel) (by decide +kernel)))))))))))))))

theorem mts_mix_2 (T : Blt mg) (C_ : Csts p mg) (c_m_check_1 : Mts P w p.K mg base "check" 3 (mS1 p false [6] ms_check_1)) (c_m_owed_0 : Mts P w p.K mg base "owed" 4 (mS0 p false [6] ms_owed_0)) (D_Shelf_mix : Dm p.K (p.cl 6) "mix" "Shelf.mix" s_Shelf_mix) : Mts P w p.K mg base "mix" 5 (mSM2 p 6 Shelf_mix) := by
  refine ⟨fun C sp h => ?_⟩
  obtain ⟨rfl, rfl⟩ := h
  obtain ⟨fa, fd, F, hm⟩ := D_Shelf_mix.ex
  exact ⟨fa, fd, ["self", "one", "other"], 5, C_.cls_6.cls, hm, ok_Shelf_mix T C_ c_m_check_1 c_m_owed_0 F, F.binds fun _ _ _ _ _ _ us hl => match us, hl with | [_, _, _], _ => rfl, by decide⟩

/-! ## _law_no_numbers -/
abbrev s__law_no_numbers : Stmt := top 32
theorem sc__law_no_numbers : FnScope ["_law_more"] ["_law_more"] (defScope s__law_no_numbers) := ⟨rfl, rfl, rfl, by decide +kernel, rfl, by decide +kernel, by decide +kernel⟩
theorem ok__law_no_numbers {fa : Addr} {fd : FuncData} (T : Blt mg) (C_ : Csts p mg)  (F : Fun p.K "_law_no_numbers" "_law_no_numbers" s__law_no_numbers fa fd) : FnOk P w p.K mg base CX0 1 fa fd ["_law_more"] (sp1 p true _law_no_numbers) := by
  refine def_ok (n := 0) F sc__law_no_numbers (fun _ => rfl) rfl fun cdv A outer s H E hr => ?_
  apply Exists.intro
  apply And.intro
  · exact (pss_one (ps_ret (pe_lst (pa_cons pe_non (pa_cons pe_str (pa_cons pe_bl (pa_cons pe_bl (pa_cons (pe_lst (pa_cons pe_int pa_nil)) (pa_cons (pe_tup (pa_cons pe_int pa_nil)) (pa_cons pe_dnewK (pa_cons (pe_un un_neg pe_int) (pa_cons (pe_op op_sub (pe_un un_neg pe_int) (pv 0)) pa_nil))))))))))))
  intro v_more
  show Bk p _ [.va (enc (v_more : Int))] (_law_no_numbers v_more) _
  unfold _law_no_numbers
  exact (k_ret (ev_lst (es_consD ev_non (es_cons ev_str (es_consD ev_bl (es_consD ev_bl (es_consD ((ev_lst (es_cons ev_int es_nil))).weak (es_consD (ev_tupH (es_cons ev_int es_nil)) (es_cons ev_dE (es_consD (ev_neg ev_int) (es_consD (ev_sub (ev_neg ev_int) (ev_var rfl)) es_nil)))))))))))
theorem cal__law_no_numbers (T : Blt mg) (C_ : Csts p mg)  (D_ : Df p.K mg "_law_no_numbers" s__law_no_numbers) : Cal P w p.K mg base "_law_no_numbers" 1 ["_law_more"] (sp1 p true _law_no_numbers) := by
  obtain ⟨fa, fd, F, hm⟩ := D_.ex
  exact ⟨fa, fd, ok__law_no_numbers T C_  F, hm, F.kp, F.binds fun _ _ _ _ _ _ us hl => match us, hl with | [_], _ => rfl⟩

/-! ## _law_state -/
abbrev s__law_state : Stmt := top 33
theorem sc__law_state : FnScope ["_law_shelf"] ["_law_shelf"] (defScope s__law_state) := ⟨rfl, rfl, rfl, by decide +kernel, rfl, by decide +kernel, by decide +kernel⟩
theorem ok__law_state {fa : Addr} {fd : FuncData} (T : Blt mg) (C_ : Csts p mg) (c_m_helpful_0 : Mts P w p.K mg base "helpful" 3 (mS0 p false [6] ms_helpful_0)) (c_m_order_0 : Mts P w p.K mg base "order" 1 (mS0 p true [6] ms_order_0)) (c_m_owed_0 : Mts P w p.K mg base "owed" 4 (mS0 p false [6] ms_owed_0)) (c_m_plan_0 : Mts P w p.K mg base "plan" 1 (mS0 p true [6] ms_plan_0)) (c_m_spent_0 : Mts P w p.K mg base "spent" 1 (mS0 p false [6] ms_spent_0)) (F : Fun p.K "_law_state" "_law_state" s__law_state fa fd) : FnOk P w p.K mg base CX0 5 fa fd ["_law_shelf"] (spD1 p _law_state) := by
  refine def_okD (n := 0) F sc__law_state (fun _ => rfl) rfl fun cdv A outer s H E hr => ?_
  apply Exists.intro
  apply And.intro
  · exact (pss_one (ps_ret (pe_lst (pa_cons (pe_mts0 c_m_order_0 (hr.mono (by decide)) (pv 0)) (pa_cons (pe_mts0 c_m_spent_0 (hr.mono (by decide)) (pv 0)) (pa_cons (pe_mts0 c_m_plan_0 (hr.mono (by decide)) (pv 0)) (pa_cons (pe_mts0 c_m_owed_0 (hr.mono (by decide)) (pv 0)) (pa_cons (pe_mts0 c_m_helpful_0 (hr.mono (by decide)) (pv 0)) pa_nil))))))))
  intro v_shelf
  show Bk p _ [.va (enc (v_shelf : Shf))] (_law_state v_shelf) _
  unfold _law_state
  exact (k_retD (en_lstT (ent_consD (en_own (ev_meth0 (ev_var rfl) (shf_no (by decide +kernel) (by decide +kernel) (by decide +kernel) (by decide +kernel) (by decide +kernel)))) (ent_consD (en_imm (ev_meth0 (ev_var rfl) (shf_no (by decide +kernel) (by decide +kernel) (by decide +kernel) (by decide +kernel) (by decide +kernel)))) (ent_consD (en_own (ev_meth0 (ev_var rfl) (shf_no (by decide +kernel) (by decide +kernel) (by decide +kernel) (by decide +kernel) (by decide +kernel)))) (ent_consD (en_imm (ev_meth0 (ev_var rfl) (shf_no (by decide +kernel) (by decide +kernel) (by decide +kernel) (by decide +kernel) (by decide +kernel)))) (ent_consD (en_imm (ev_meth0 (ev_var rfl) (shf_no (by decide +kernel) (by decide +kernel) (by decide +kernel) (by decide +kernel) (by decide +kernel)))) ent_nil)))))))
theorem cal__law_state (T : Blt mg) (C_ : Csts p mg) (c_m_helpful_0 : Mts P w p.K mg base "helpful" 3 (mS0 p false [6] ms_helpful_0)) (c_m_order_0 : Mts P w p.K mg base "order" 1 (mS0 p true [6] ms_order_0)) (c_m_owed_0 : Mts P w p.K mg base "owed" 4 (mS0 p false [6] ms_owed_0)) (c_m_plan_0 : Mts P w p.K mg base "plan" 1 (mS0 p true [6] ms_plan_0)) (c_m_spent_0 : Mts P w p.K mg base "spent" 1 (mS0 p false [6] ms_spent_0)) (D_ : Df p.K mg "_law_state" s__law_state) : Cal P w p.K mg base "_law_state" 5 ["_law_shelf"] (spD1 p _law_state) := by
  obtain ⟨fa, fd, F, hm⟩ := D_.ex
  exact ⟨fa, fd, ok__law_state T C_ c_m_helpful_0 c_m_order_0 c_m_owed_0 c_m_plan_0 c_m_spent_0 F, hm, F.kp, F.binds fun _ _ _ _ _ _ us hl => match us, hl with | [_], _ => rfl⟩
end
end Fw

set_option pp.maxSteps 200
set_option Elab.async false
set_option maxRecDepth 100000
set_option maxHeartbeats 20000000
set_option linter.all false
namespace Fw
open PySem L2 PU
open PU.Enc
section
variable {P : Program} {w : World} {p : Pm} {mg : Str → Option Value} {base : Heap}
/-! ## law -/
abbrev s_law : Stmt := top 34
theorem sc_law : FnScope ["_law_script", "_law_cell", "_law_more", "_law_shelf", "_law_before", "_law_books"] ["_law_script"] (defScope s_law) := ⟨rfl, rfl, rfl, by decide +kernel, rfl, by decide +kernel, by decide +kernel⟩
theorem ok_law {fa c Pt : Addr} {oc kV dc pm ct : Value} {an od : Option Addr} {osl : Array (Option Value)} (T : Blt mg) (C_ : Csts p mg) (c_Shelf : Mak P w p.K mg base "Shelf" (p.cl 6) 5 ["self", "order", "weights", "nailed"] (spI3 p 6 mk_Shelf)) (c__law_no_numbers : Cal P w p.K mg base "_law_no_numbers" 1 ["_law_more"] (sp1 p true _law_no_numbers)) (c__law_state : Cal P w p.K mg base "_law_state" 5 ["_law_shelf"] (spD1 p _law_state)) (c_m_mix_2 : Mts P w p.K mg base "mix" 5 (mSM2 p 6 Shelf_mix)) (c_m_order_0 : Mts P w p.K mg base "order" 1 (mS0 p true [6] ms_order_0)) (c_m_plan_0 : Mts P w p.K mg base "plan" 1 (mS0 p true [6] ms_plan_0)) (c_m_put_2 : Mts P w p.K mg base "put" 5 (mSM2 p 6 Shelf_put)) (c_m_spent_0 : Mts P w p.K mg base "spent" 1 (mS0 p false [6] ms_spent_0)) (c__law_refused : AskC P w p.K mg base "_law_refused" 6 5 (SPXref p CS_)) (c_put_x : MetX P w p.K mg base "put" (p.cl 6) 4 (spX p (fun x : Shf × D × D => [Enc.enc x.1, x.2.1, x.2.2]) (fun x => putX x.1 x.2.1 x.2.2))) (c_mix_x : MetX P w p.K mg base "mix" (p.cl 6) 4 (spX p (fun x : Shf × D × D => [Enc.enc x.1, x.2.1, x.2.2]) (fun x => mixX x.1 x.2.1 x.2.2))) (TB : LamX.TabB base mg c Pt) (lk : p.K.lookup fa = some ⟨oc, od, .func (PySem.W.fnOf "law" "law" (defArgs s_law) (defBody s_law) (defScope s_law) .none kV dc pm an (.ref c) ct), osl⟩) (hcd : PySem.W.codeIn p.K (.ref c) "law" = true) : FnOk P w p.K mg base CX0 7 fa (PySem.W.fnOf "law" "law" (defArgs s_law) (defBody s_law) (defScope s_law) .none kV dc pm an (.ref c) ct) ["_law_script"] (spTab p Pt law) := by
  refine def_okT (q := ((("law" : Str) ++ ".<locals>.") ++ "<lambda>")) (n := 5) lk hcd sc_law rfl rfl fun A outer s H E hr => ?_
  apply Exists.intro
  apply And.intro
  · exact (pss_cons (ps_for PassesOwn.never rfl (xi_list p.K (pe_op op_cat (pe_slice (xs_list p.K) (pv 0) po_none (po_some pe_int)) (pe_lst (pa_cons (pe_callB (xc_len p.K) (by rfl) T.len bs_len (pa_cons (pv 0) pa_nil)) pa_nil)))) (pg_name (i := 1) sc_law.nd rfl (by first | exact Or.inl rfl | exact Or.inr rfl)) (pss_cons (ps_set (i := 2) sc_law.nd rfl (by first | exact Or.inl rfl | exact Or.inr rfl) (pe_op op_modN (pe_callB call_abs (by rfl) T.abs bs_abs (pa_cons (pv 1) pa_nil)) (pe_op op_pow pe_int pe_int))) (pss_cons (ps_set (i := 3) sc_law.nd rfl (by first | exact Or.inl rfl | exact Or.inr rfl) (pe_mak c_Shelf (hr.mono (by decide)) (by rfl) (pa_cons (pe_lst (pa_cons pe_int (pa_cons pe_int (pa_cons pe_int (pa_cons pe_int pa_nil))))) (pa_cons (pe_lst (pa_cons pe_int (pa_cons pe_int (pa_cons pe_int (pa_cons pe_int pa_nil))))) (pa_cons (pe_lst (pa_cons pe_int pa_nil)) pa_nil))))) (pss_cons (ps_if (PW.pt (pw_or (pt_cmpR (xo_neD p.K hr.units) (pe_mts c_m_put_2 (hr.mono (by decide)) (pv 3) (pa_cons pe_int (pa_cons pe_int pa_nil))) pe_int (nomark _)) (pw_or1 (pt_cmpR (xo_neD p.K hr.units) (pe_mts c_m_mix_2 (hr.mono (by decide)) (pv 3) (pa_cons pe_int (pa_cons pe_int pa_nil))) pe_int (nomark _))))) (pss_one (ps_ret pe_bl)) pss_nil) (pss_cons (ps_par (i := 4) (j := 5) rfl sc_law.nd rfl rfl (by decide) rfl rfl (pa_cons (pe_cal c__law_state (hr.mono (by decide)) (by rfl) (pa_cons (pv 3) pa_nil)) (pa_cons (pe_op op_cat (pe_cal c__law_no_numbers (hr.mono (by decide)) (by rfl) (pa_cons (pv 2) pa_nil)) (pe_lst (pa_cons pe_int (pa_cons (pe_op op_add pe_int (pv 2)) pa_nil)))) pa_nil)) (by rfl)) (pss_cons (ps_if (pt_not (pt_val (pe_askC (lps := ["_law_one"]) (fr := ["_law_shelf"]) (js := [3]) c__law_refused rfl hr (by decide) (by rfl) TB rfl rfl (by kernel_rfl) rfl (fun f c1 => (lok_S (m := "put") (r := (fun (S : Shf) (d : D) => putX S (d) (D.non))) (T := fun S d => (S, d, D.non)) (args := fun S d => [d, D.non]) (NdefX.nscope_by (by kernel_rfl)) (fun _ _ us hl => match us, hl with | [_], _ => rfl) (fun A outer s H E hr2 => (pe_metX c_put_x (hr2.mono (by decide)) (L2N.takes_of rfl rfl rfl rfl) (fun _ _ _ _ h => h) (pv 1) (pa_cons (pv 0) (pa_cons pe_non pa_nil)))) (fun S d => (ea_cons2 (ev_var (x := d) rfl) rfl (ea_cons2 ev_non rfl ea_nil))) (fun _ _ => rfl) (fun _ _ _ h => h) (by decide))) (pa_cons (pe_op op_cat (pv 5) (pe_lst (pa_cons pe_int pa_nil))) (pa_cons pe_int pa_nil))))) (pss_one (ps_ret pe_bl)) pss_nil) (pss_cons (ps_if (pt_not (pt_val (pe_askC (lps := ["_law_two"]) (fr := ["_law_shelf"]) (js := [3]) c__law_refused rfl hr (by decide) (by rfl) TB rfl rfl (by kernel_rfl) rfl (fun f c1 => (lok_S (m := "put") (r := (fun (S : Shf) (d : D) => putX S (D.int 2) (d))) (T := fun S d => (S, D.int 2, d)) (args := fun S d => [D.int 2, d]) (NdefX.nscope_by (by kernel_rfl)) (fun _ _ us hl => match us, hl with | [_], _ => rfl) (fun A outer s H E hr2 => (pe_metX c_put_x (hr2.mono (by decide)) (L2N.takes_of rfl rfl rfl rfl) (fun _ _ _ _ h => h) (pv 1) (pa_cons pe_int (pa_cons (pv 0) pa_nil)))) (fun S d => (ea_cons2 ev_int rfl (ea_cons2 (ev_var (x := d) rfl) rfl ea_nil))) (fun _ _ => rfl) (fun _ _ _ h => h) (by decide))) (pa_cons (pe_lst (pa_cons pe_int (pa_cons pe_int (pa_cons pe_non pa_nil)))) (pa_cons pe_int pa_nil))))) (pss_one (ps_ret pe_bl)) pss_nil) (pss_cons (ps_if (pt_not (pt_val (pe_askC (lps := ["_law_place"]) (fr := ["_law_shelf"]) (js := [3]) c__law_refused rfl hr (by decide) (by rfl) TB rfl rfl (by kernel_rfl) rfl (fun f c1 => (lok_S (m := "put") (r := (fun (S : Shf) (d : D) => putX S (D.int 0) (d))) (T := fun S d => (S, D.int 0, d)) (args := fun S d => [D.int 0, d]) (NdefX.nscope_by (by kernel_rfl)) (fun _ _ us hl => match us, hl with | [_], _ => rfl) (fun A outer s H E hr2 => (pe_metX c_put_x (hr2.mono (by decide)) (L2N.takes_of rfl rfl rfl rfl) (fun _ _ _ _ h => h) (pv 1) (pa_cons pe_int (pa_cons (pv 0) pa_nil)))) (fun S d => (ea_cons2 ev_int rfl (ea_cons2 (ev_var (x := d) rfl) rfl ea_nil))) (fun _ _ => rfl) (fun _ _ _ h => h) (by decide))) (pa_cons (pe_op op_cat (pe_cal c__law_no_numbers (hr.mono (by decide)) (by rfl) (pa_cons (pv 2) pa_nil)) (pe_lst (pa_cons pe_int (pa_cons (pe_op op_add pe_int (pv 2)) pa_nil)))) (pa_cons pe_int pa_nil))))) (pss_one (ps_ret pe_bl)) pss_nil) (pss_cons (ps_if (pt_not (pt_val (pe_askC (lps := ["_law_this"]) (fr := ["_law_shelf"]) (js := [3]) c__law_refused rfl hr (by decide) (by rfl) TB rfl rfl (by kernel_rfl) rfl (fun f c1 => (lok_S (m := "mix") (r := (fun (S : Shf) (d : D) => mixX S (d) (D.non))) (T := fun S d => (S, d, D.non)) (args := fun S d => [d, D.non]) (NdefX.nscope_by (by kernel_rfl)) (fun _ _ us hl => match us, hl with | [_], _ => rfl) (fun A outer s H E hr2 => (pe_metX c_mix_x (hr2.mono (by decide)) (L2N.takes_of rfl rfl rfl rfl) (fun _ _ _ _ h => h) (pv 1) (pa_cons (pv 0) (pa_cons pe_non pa_nil)))) (fun S d => (ea_cons2 (ev_var (x := d) rfl) rfl (ea_cons2 ev_non rfl ea_nil))) (fun _ _ => rfl) (fun _ _ _ h => h) (by decide))) (pa_cons (pv 5) (pa_cons pe_int pa_nil))))) (pss_one (ps_ret pe_bl)) pss_nil) (pss_cons (ps_if (PW.pt (pw_or (pt_not (pt_val (pe_askC (lps := ["_law_that"]) (fr := ["_law_shelf"]) (js := [3]) c__law_refused rfl hr (by decide) (by rfl) TB rfl rfl (by kernel_rfl) rfl (fun f c1 => (lok_S (m := "mix") (r := (fun (S : Shf) (d : D) => mixX S (D.int 2) (d))) (T := fun S d => (S, D.int 2, d)) (args := fun S d => [D.int 2, d]) (NdefX.nscope_by (by kernel_rfl)) (fun _ _ us hl => match us, hl with | [_], _ => rfl) (fun A outer s H E hr2 => (pe_metX c_mix_x (hr2.mono (by decide)) (L2N.takes_of rfl rfl rfl rfl) (fun _ _ _ _ h => h) (pv 1) (pa_cons pe_int (pa_cons (pv 0) pa_nil)))) (fun S d => (ea_cons2 ev_int rfl (ea_cons2 (ev_var (x := d) rfl) rfl ea_nil))) (fun _ _ => rfl) (fun _ _ _ h => h) (by decide))) (pa_cons (pv 5) (pa_cons pe_int pa_nil))))) (pw_or1 (pt_cmpR (xo_neD p.K hr.units) (pe_cal c__law_state (hr.mono (by decide)) (by rfl) (pa_cons (pv 3) pa_nil)) (pv 4) (nomark _))))) (pss_one (ps_ret pe_bl)) pss_nil) (pss_cons (ps_if (PW.pt (pw_or (pt_cmpR (xo_neD p.K hr.units) (pe_mts c_m_mix_2 (hr.mono (by decide)) (pv 3) (pa_cons pe_int (pa_cons pe_int pa_nil))) pe_int (nomark _)) (pw_or (pt_cmpR (xo_neD p.K hr.units) (pe_mts c_m_mix_2 (hr.mono (by decide)) (pv 3) (pa_cons pe_int (pa_cons pe_int pa_nil))) pe_int (nomark _)) (pw_or (pt_cmpR (xo_neD p.K hr.units) (pe_mts c_m_put_2 (hr.mono (by decide)) (pv 3) (pa_cons pe_int (pa_cons pe_int pa_nil))) pe_int (nomark _)) (pw_or1 (pt_cmpR (xo_neD p.K hr.units) (pe_mts c_m_put_2 (hr.mono (by decide)) (pv 3) (pa_cons pe_int (pa_cons pe_int pa_nil))) pe_int (nomark _))))))) (pss_one (ps_ret pe_bl)) pss_nil) (pss_cons (ps_if (PW.pt (pw_or (pt_cmpR (xo_neD p.K hr.units) (pe_mts0 c_m_order_0 (hr.mono (by decide)) (pv 3)) (pe_lst (pa_cons pe_int (pa_cons pe_int (pa_cons pe_int (pa_cons pe_int pa_nil))))) (nomark _)) (pw_or (pt_cmpR op_ne (pe_mts0 c_m_spent_0 (hr.mono (by decide)) (pv 3)) pe_int (nomark _)) (pw_or1 (pt_cmpR (xo_neD p.K hr.units) (pe_mts0 c_m_plan_0 (hr.mono (by decide)) (pv 3)) (pe_lst (pa_cons (pe_tup (pa_cons pe_int (pa_cons pe_int pa_nil))) (pa_cons (pe_tup (pa_cons pe_int (pa_cons pe_int pa_nil))) (pa_cons (pe_tup (pa_cons pe_int (pa_cons pe_int pa_nil))) pa_nil)))) (nomark _)))))) (pss_one (ps_ret pe_bl)) pss_nil) pss_nil)))))))))))) (pss_one (ps_ret pe_bl)))
  intro v_script
  show Bk p _ [.rs (tabR Pt ((("law" : Str) ++ ".<locals>.") ++ "<lambda>") (enc (v_script : Scr))), .fr, .fr, .fr, .fr, .fr] (law v_script) _
  unfold law
  exact (k_seqR (k_forB (envS := fun (s1 : Unit) => [.rs (tabR Pt ((("law" : Str) ++ ".<locals>.") ++ "<lambda>") (enc (v_script : Scr))), .fr, .fr, .fr, .fr, .fr]) (ei_list ((ev_cat ((ev_scrCut (ev_tab rfl) ev_int)).weak ((ev_lst (es_cons (ev_scrLen (ev_tab rfl)) es_nil))).weak)).weak) (le_r (le_f (le_f (le_f (le_f (le_f le_nil)))))) (fun _ _ => tg_name) (fun s1 a11 => (k_asg (ev_fmod (ev_abs (ev_var rfl)) (ev_pow ev_int ev_int)) (fun v_more_17 => (k_asgN (en_make3 ((ev_lst (es_cons ev_int (es_cons ev_int (es_cons ev_int (es_cons ev_int es_nil)))))).weak ((ev_lst (es_cons ev_int (es_cons ev_int (es_cons ev_int (es_cons ev_int es_nil)))))).weak ((ev_lst (es_cons ev_int es_nil))).weak) (fun v_shelf_39 => (k_ifEB (te_orE2 (te_test (ee_neD2 (ee_meth2 (i := 3) (r := dn) (x := v_shelf_39) rfl (shf_no (by decide +kernel) (by decide +kernel) (by decide +kernel) (by decide +kernel) (by decide +kernel) _) ev_int ev_int) (fun _ => (ev_some ev_int)))) (fun y41 => (te_test (ee_neD2 (ee_meth2 (i := 3) (r := dn) (x := y41) rfl (shf_no (by decide +kernel) (by decide +kernel) (by decide +kernel) (by decide +kernel) (by decide +kernel) _) ev_int ev_int) (fun _ => (ev_some ev_int)))))) (fun v_shelf_55 => (k_ret ev_bl)) (fun v_shelf_55 => (k_par ((en_frz (.dn 3 rfl .refl) (en_call1 (ev_var rfl)))).ev ((ev_cat ((ev_call1 (ev_var rfl))).weak ((ev_lst (es_consD ev_int (es_consD (ev_add ev_int (ev_var rfl)) es_nil)))).weak)).weak (fun v_before_67 v_books_68 => (k_ifEB (te_not2 (te_B (ee_refused (ts := 0) (js := 3) (cs := CS_) (r := (fun (S : Shf) (d : D) => putX S (d) (D.non))) (S := v_shelf_55) (due := 4) rfl rfl ((ev_cat (ev_var rfl) ((ev_lst (es_consD ev_int es_nil))).weak)).weak))) (fun u79 => (k_ret ev_bl)) (fun u79 => (k_ifEB (te_not2 (te_B (ee_refused (ts := 0) (js := 3) (cs := CS_) (r := (fun (S : Shf) (d : D) => putX S (D.int 2) (d))) (S := v_shelf_55) (due := 4) rfl rfl ((ev_lst (es_consD ev_int (es_consD ev_int (es_consD ev_non es_nil))))).weak))) (fun u93 => (k_ret ev_bl)) (fun u93 => (k_ifEB (te_not2 (te_B (ee_refused (ts := 0) (js := 3) (cs := CS_) (r := (fun (S : Shf) (d : D) => putX S (D.int 0) (d))) (S := v_shelf_55) (due := 5) rfl rfl ((ev_cat ((ev_call1 (ev_var rfl))).weak ((ev_lst (es_consD ev_int (es_consD (ev_add ev_int (ev_var rfl)) es_nil)))).weak)).weak))) (fun u110 => (k_ret ev_bl)) (fun u110 => (k_ifEB (te_not2 (te_B (ee_refused (ts := 0) (js := 3) (cs := CS_) (r := (fun (S : Shf) (d : D) => mixX S (d) (D.non))) (S := v_shelf_55) (due := 4) rfl rfl (ev_var rfl)))) (fun u118 => (k_ret ev_bl)) (fun u118 => (k_ifEB (te_or2 (te_not2 (te_B (ee_refused (ts := 0) (js := 3) (cs := CS_) (r := (fun (S : Shf) (d : D) => mixX S (D.int 2) (d))) (S := v_shelf_55) (due := 4) rfl rfl (ev_var rfl)))) (fun y121 => (et_frz (.dn 3 rfl .refl) (et_test (ev_neDD ((en_call1 (ev_var rfl))).ev (ev_var rfl)))))) (fun u133 => (k_ret ev_bl)) (fun u133 => (k_ifEB (te_orE2 (te_test (ee_neD2 (ee_meth2 (i := 3) (r := dn) (x := v_shelf_55) rfl (shf_no (by decide +kernel) (by decide +kernel) (by decide +kernel) (by decide +kernel) (by decide +kernel) _) ev_int ev_int) (fun _ => (ev_some ev_int)))) (fun y136 => (te_orE2 (te_test (ee_neD2 (ee_meth2 (i := 3) (r := dn) (x := y136) rfl (shf_no (by decide +kernel) (by decide +kernel) (by decide +kernel) (by decide +kernel) (by decide +kernel) _) ev_int ev_int) (fun _ => (ev_some ev_int)))) (fun y144 => (te_orE2 (te_test (ee_neD2 (ee_meth2 (i := 3) (r := dn) (x := y144) rfl (shf_no (by decide +kernel) (by decide +kernel) (by decide +kernel) (by decide +kernel) (by decide +kernel) _) ev_int ev_int) (fun _ => (ev_some ev_int)))) (fun y152 => (te_test (ee_neD2 (ee_meth2 (i := 3) (r := dn) (x := y152) rfl (shf_no (by decide +kernel) (by decide +kernel) (by decide +kernel) (by decide +kernel) (by decide +kernel) _) ev_int ev_int) (fun _ => (ev_some ev_int)))))))))) (fun v_shelf_166 => (k_ret ev_bl)) (fun v_shelf_166 => (k_ifB (et_frz (.dn 3 rfl .refl) (et_or (et_test (ev_neD ((ev_meth0 (ev_var rfl) (shf_no (by decide +kernel) (by decide +kernel) (by decide +kernel) (by decide +kernel) (by decide +kernel)))).weak ((ev_lst (es_cons ev_int (es_cons ev_int (es_cons ev_int (es_cons ev_int es_nil)))))).weak)) (et_or (et_test (ev_neS (ev_meth0 (ev_var rfl) (shf_no (by decide +kernel) (by decide +kernel) (by decide +kernel) (by decide +kernel) (by decide +kernel))) ev_int)) (et_test (ev_neD ((ev_meth0 (ev_var rfl) (shf_no (by decide +kernel) (by decide +kernel) (by decide +kernel) (by decide +kernel) (by decide +kernel)))).weak ((ev_lst (es_cons (ev_tup2 ev_int ev_int) (es_cons (ev_tup2 ev_int ev_int) (es_cons (ev_tup2 ev_int ev_int) es_nil))))).weak))))) (k_ret ev_bl) (k_endB (le_r (le_f (le_f (le_f (le_f (le_f le_nil)))))))))))))))))))))))))))))) (fun s1 => (k_ret ev_bl)))
end
end Fw

set_option pp.maxSteps 200
set_option Elab.async false
set_option maxRecDepth 100000
set_option maxHeartbeats 20000000
set_option linter.all false
namespace FwD
open PySem L2 PU Fw
open PU.Enc
section
variable {P : Program} {w : World} {p : Pm} {mg : Str → Option Value} {base : Heap}
/-! ## is_whole -/
abbrev s_is_whole : Stmt := top 11
theorem sc_is_whole : FnScope ["thing"] ["thing"] (defScope s_is_whole) := ⟨rfl, rfl, rfl, by decide +kernel, rfl, by decide +kernel, by decide +kernel⟩
theorem ok_is_whole {fa : Addr} {fd : FuncData} (T : Blt mg) (C_ : Csts p mg)  (F : Fun p.K "is_whole" "is_whole" s_is_whole fa fd) : FnOk P w p.K mg base CX0 1 fa fd ["thing"] (sp1 p false is_whole_D) := by
  refine def_ok (n := 0) F sc_is_whole (fun _ => rfl) rfl fun cdv A outer s H E hr => ?_
  apply Exists.intro
  apply And.intro
  · exact (pss_one (ps_ret (pe_and (pe_callB (xc_isi p.K) (by rfl) T.isinstance bs_isinstance (pa_cons (pv 0) (pa_cons (pe_bltn (v := .ty "int") (by rfl) T.int bs_int rfl) pa_nil))) (pe_one (pe_not (pe_callB (xc_isi p.K) (by rfl) T.isinstance bs_isinstance (pa_cons (pv 0) (pa_cons (pe_bltn (v := .ty "bool") (by rfl) T.bool bs_bool rfl) pa_nil))))))))
  intro v_thing
  show Bk p _ [.va (enc (v_thing : D))] (is_whole_D v_thing) _
  unfold is_whole_D
  exact (k_ret (ev_and (ev_isiD (ev_var rfl)) (ev_not (ev_isiD (ev_var rfl)))))
theorem cal_is_whole (T : Blt mg) (C_ : Csts p mg)  (D_ : Df p.K mg "is_whole" s_is_whole) : Cal P w p.K mg base "is_whole" 1 ["thing"] (sp1 p false is_whole_D) := by
  obtain ⟨fa, fd, F, hm⟩ := D_.ex
  exact ⟨fa, fd, ok_is_whole T C_  F, hm, F.kp, F.binds fun _ _ _ _ _ _ us hl => match us, hl with | [_], _ => rfl⟩

/-! ## is_between -/
abbrev s_is_between : Stmt := top 12
theorem sc_is_between : FnScope ["thing", "least", "most"] ["thing", "least", "most"] (defScope s_is_between) := ⟨rfl, rfl, rfl, by decide +kernel, rfl, by decide +kernel, by decide +kernel⟩
theorem ok_is_between {fa : Addr} {fd : FuncData} (T : Blt mg) (C_ : Csts p mg) (c_is_whole : Cal P w p.K mg base "is_whole" 1 ["thing"] (sp1 p false is_whole_D)) (F : Fun p.K "is_between" "is_between" s_is_between fa fd) : FnOk P w p.K mg base CX0 2 fa fd ["thing", "least", "most"] (sp3 p false is_between_D) := by
  refine def_ok (n := 0) F sc_is_between (fun _ => rfl) rfl fun cdv A outer s H E hr => ?_
  apply Exists.intro
  apply And.intro
  · exact (pss_one (ps_ret (pe_and (pe_cal c_is_whole (hr.mono (by decide)) (by rfl) (pa_cons (pv 0) pa_nil)) (pe_one (pe_chain op_le op_le (pv 1) (pv 0) (pv 2))))))
  rintro ⟨v_thing, v_least, v_most⟩
  show Bk p _ [.va (enc (v_thing : D)), .va (enc (v_least : Int)), .va (enc (v_most : Int))] (is_between_D v_thing v_least v_most) _
  unfold is_between_D
  exact (k_ret (ev_and (ev_call1 (ev_var rfl)) (ev_chain (h := (fun (i j : Int) => decide (i ≤ j))) (h' := (fun (i j : Int) => decide (i ≤ j))) (fun _ _ => rfl) (fun _ _ => rfl) (ev_var rfl) (ev_intD (ev_var rfl)) (ev_var rfl))))
theorem cal_is_between (T : Blt mg) (C_ : Csts p mg) (c_is_whole : Cal P w p.K mg base "is_whole" 1 ["thing"] (sp1 p false is_whole_D)) (D_ : Df p.K mg "is_between" s_is_between) : Cal P w p.K mg base "is_between" 2 ["thing", "least", "most"] (sp3 p false is_between_D) := by
  obtain ⟨fa, fd, F, hm⟩ := D_.ex
  exact ⟨fa, fd, ok_is_between T C_ c_is_whole F, hm, F.kp, F.binds fun _ _ _ _ _ _ us hl => match us, hl with | [_, _, _], _ => rfl⟩
end
end FwD
namespace Fw
open PySem L2 PU
open PU.Enc
section
variable {P : Program} {w : World} {p : Pm} {mg : Str → Option Value} {base : Heap}
theorem met_check_x (T : Blt mg) (C_ : Csts p mg) (c_is_between : Cal P w p.K mg base "is_between" 2 ["thing", "least", "most"] (sp3 p false is_between_D)) (D_ : Dm p.K (p.cl 6) "check" "Shelf.check" s_Shelf_check) : MetX P w p.K mg base "check" (p.cl 6) 3 (spXU p (fun x : Shf × D => [Enc.enc x.1, x.2]) (fun x => checkX x.1 x.2)) := by
  obtain ⟨fa, fd, F, hm⟩ := D_.ex
  refine ⟨fa, fd, ["self", "book"], C_.cls_6.cls, hm, funN F sc_Shelf_check (fun vs H Q E h => ?_) fun cdv A outer s H vs Q E hr h => ?_, F.binds fun _ _ _ _ _ _ us hl => match us, hl with | [_, _], _ => rfl⟩
  · obtain ⟨G, x, o, _, r, _⟩ := h
    exact r.length.symm
  · obtain ⟨G, ⟨self, book⟩, o, sg, r, e, q⟩ := h
    have st : Sts p G H [.va (Enc.enc self), .va (Enc.enc book)] (L2.start ["self", "book"] vs) G H := sts_start (n := 0) sg r rfl
    apply Exists.intro
    apply And.intro
    · exact (pss_one (ps_if (pt_not (pt_val (pe_cal c_is_between (hr.mono (by decide)) (by rfl) (pa_cons (pv 1) (pa_cons pe_int (pa_cons (pe_op op_sub (pe_callB (xc_len p.K) (by rfl) T.len bs_len (pa_cons (xe_fld p.K (pv 0)) pa_nil)) pe_int) pa_nil)))))) (pss_one (L2N.ps_raise rfl (L2N.takes_of rfl rfl rfl rfl) (L2N.pmk_own PySem.F.excBase_ValueError C_.err_14.q C_.err_14.at_ C_.err_14.kp (raises_own C_.err_14.ex.hs C_.err_14.ty) (by rfl)))) pss_nil))
    · exact (show Bk p _ [.va (Enc.enc self), .va (Enc.enc book)] (checkX self book) (pXU p E) from kx_ifU (et_not (et_B (ev_call3 (ev_var rfl) ev_int (ev_sub (ev_len (ev_shf (ev_var rfl) lk_books C_.cls_6.cls C_.na_6_books)) ev_int)))) kx_raise) o e G H _ G H st _ (by
      cases o with
      | some c => exact q
      | none => exact fun σ' G' H' g => q G' H' g)
theorem met_put_x (T : Blt mg) (C_ : Csts p mg) (c_is_between : Cal P w p.K mg base "is_between" 2 ["thing", "least", "most"] (sp3 p false is_between_D)) (c_check_x : MetX P w p.K mg base "check" (p.cl 6) 3 (spXU p (fun x : Shf × D => [Enc.enc x.1, x.2]) (fun x => checkX x.1 x.2))) (D_ : Dm p.K (p.cl 6) "put" "Shelf.put" s_Shelf_put) : MetX P w p.K mg base "put" (p.cl 6) 4 (spX p (fun x : Shf × D × D => [Enc.enc x.1, x.2.1, x.2.2]) (fun x => putX x.1 x.2.1 x.2.2)) := by
  obtain ⟨fa, fd, F, hm⟩ := D_.ex
  refine ⟨fa, fd, ["self", "book", "place"], C_.cls_6.cls, hm, funN F sc_Shelf_put (fun vs H Q E h => ?_) fun cdv A outer s H vs Q E hr h => ?_, F.binds fun _ _ _ _ _ _ us hl => match us, hl with | [_, _, _], _ => rfl⟩
  · obtain ⟨G, x, o, _, r, _⟩ := h
    exact r.length.symm
  · obtain ⟨G, ⟨self, book, place⟩, o, sg, r, e, q⟩ := h
    have st : Sts p G H [.va (Enc.enc self), .va (Enc.enc book), .va (Enc.enc place)] (L2.start ["self", "book", "place"] vs) G H := sts_start (n := 0) sg r rfl
    apply Exists.intro
    apply And.intro
    · exact (pss_cons (ps_expr (pe_metX c_check_x (hr.mono (by decide)) (L2N.takes_of rfl rfl rfl rfl) (fun _ _ _ _ h => h) (pv 0) (pa_cons (pv 1) pa_nil))) (pss_cons (ps_if (pt_cmpR (xo_in p.K) (pv 1) (xe_fld p.K (pv 0)) rfl) (pss_one (L2N.ps_raise rfl (L2N.takes_of rfl rfl rfl rfl) (L2N.pmk_own PySem.F.excBase_ValueError C_.err_14.q C_.err_14.at_ C_.err_14.kp (raises_own C_.err_14.ex.hs C_.err_14.ty) (by rfl)))) pss_nil) (pss_stop (ps_if (pt_not (pt_val (pe_cal c_is_between (hr.mono (by decide)) (by rfl) (pa_cons (pv 2) (pa_cons pe_int (pa_cons (pe_op op_sub (pe_callB (xc_len p.K) (by rfl) T.len bs_len (pa_cons (xe_fld p.K (pv 0)) pa_nil)) pe_int) pa_nil)))))) (pss_one (L2N.ps_raise rfl (L2N.takes_of rfl rfl rfl rfl) (L2N.pmk_own PySem.F.excBase_ValueError C_.err_15.q C_.err_15.at_ C_.err_15.kp (raises_own C_.err_15.ex.hs C_.err_15.ty) (by rfl)))) pss_nil))))
    · exact (show Bk p _ [.va (Enc.enc self), .va (Enc.enc book), .va (Enc.enc place)] (putX self book place) (pX p E) from (kx_meth (a := (self, book)) (by decide) (ev_var (x := self) rfl) (ea_cons2 (ev_var (x := book) rfl) rfl ea_nil) rfl (kx_if (et_test (ev_in (ev_intD (ev_var rfl)) (ev_shf (ev_var rfl) lk_nailed C_.cls_6.cls C_.na_6_nailed))) kx_raise (kx_stop (kx_ifL (et_not (et_B (ev_call3 (ev_var rfl) ev_int (ev_sub (ev_len (ev_shf (ev_var rfl) lk_books C_.cls_6.cls C_.na_6_books)) ev_int)))) kx_raise))))) o e G H _ G H st _ q
theorem met_mix_x (T : Blt mg) (C_ : Csts p mg) (c_is_between : Cal P w p.K mg base "is_between" 2 ["thing", "least", "most"] (sp3 p false is_between_D)) (c_check_x : MetX P w p.K mg base "check" (p.cl 6) 3 (spXU p (fun x : Shf × D => [Enc.enc x.1, x.2]) (fun x => checkX x.1 x.2))) (D_ : Dm p.K (p.cl 6) "mix" "Shelf.mix" s_Shelf_mix) : MetX P w p.K mg base "mix" (p.cl 6) 4 (spX p (fun x : Shf × D × D => [Enc.enc x.1, x.2.1, x.2.2]) (fun x => mixX x.1 x.2.1 x.2.2)) := by
  obtain ⟨fa, fd, F, hm⟩ := D_.ex
  refine ⟨fa, fd, ["self", "one", "other"], C_.cls_6.cls, hm, funN F sc_Shelf_mix (fun vs H Q E h => ?_) fun cdv A outer s H vs Q E hr h => ?_, F.binds fun _ _ _ _ _ _ us hl => match us, hl with | [_, _, _], _ => rfl⟩
  · obtain ⟨G, x, o, _, r, _⟩ := h
    exact r.length.symm
  · obtain ⟨G, ⟨self, one, other⟩, o, sg, r, e, q⟩ := h
    have st : Sts p G H [.va (Enc.enc self), .va (Enc.enc one), .va (Enc.enc other), .fr, .fr] (L2.start ["self", "one", "other", "first", "second"] vs) G H := sts_start (n := 2) sg r rfl
    apply Exists.intro
    apply And.intro
    · exact (pss_cons (ps_expr (pe_metX c_check_x (hr.mono (by decide)) (L2N.takes_of rfl rfl rfl rfl) (fun _ _ _ _ h => h) (pv 0) (pa_cons (pv 1) pa_nil))) (pss_stop (ps_expr (pe_metX c_check_x (hr.mono (by decide)) (L2N.takes_of rfl rfl rfl rfl) (fun _ _ _ _ h => h) (pv 0) (pa_cons (pv 2) pa_nil)))))
    · exact (show Bk p _ [.va (Enc.enc self), .va (Enc.enc one), .va (Enc.enc other), .fr, .fr] (mixX self one other) (pX p E) from (kx_meth (a := (self, one)) (by decide) (ev_var (x := self) rfl) (ea_cons2 (ev_var (x := one) rfl) rfl ea_nil) rfl (kx_stop (kx_methL (a := (self, other)) (by decide) (ev_var (x := self) rfl) (ea_cons2 (ev_var (x := other) rfl) rfl ea_nil) rfl)))) o e G H _ G H st _ q
abbrev s__law_which : Stmt := top 30
theorem sc__law_which : FnScope ["_law_error", "_law_found"] ["_law_error"] (defScope s__law_which) := ⟨rfl, rfl, rfl, by decide +kernel, rfl, by decide +kernel, by decide +kernel⟩
theorem bs_ve : bootBuiltins "ValueError" = some (.type "ValueError") := by decide +kernel
theorem which_body (T : Blt mg) (C_ : Csts p mg) {i : Nat} {x : Str} (R : ErrR p mg i x) {a : Addr} {oe : Obj} (hz : Zc (.ref (p.cl i)) none oe) (hf : ∃ vs, oe.data = .fields vs) {g : Addr} {cdv : Value} {A : Around} {outer : List Env} {s : Shared} {H : Hp} {k : Nat} (hr : L2H.RoomH k (A.deeper (PyProof.Rows.envOfC "_law_which" (defScope s__law_which) s.heap.objs.size g cdv))) :
    ∃ t, PSs (L2H.cxH CX0 P w p.K mg base ["_law_error", "_law_found"] "_law_which" (defScope s__law_which) g cdv A outer s H E0 (a, oe)) (defBody s__law_which) t ∧ Bk p t [.va (.adr a), .fr] (whichM i) (pR p false Int) := by
  have ci : CallR (L2H.cxH CX0 P w p.K mg base ["_law_error", "_law_found"] "_law_which" (defScope s__law_which) g cdv A outer s H E0 (a, oe)) (.builtin "isinstance") (rIsE p.K (p.cl i) a) := call_isP (X := L2H.cxH CX0 P w p.K mg base ["_law_error", "_law_found"] "_law_which" (defScope s__law_which) g cdv A outer s H E0 (a, oe)) R.ex hz hf (by exact List.mem_cons_self)
  apply Exists.intro
  apply And.intro
  · exact (pss_cons (ps_set (i := 1) sc__law_which.nd rfl (by first | exact Or.inl rfl | exact Or.inr rfl) (pe_lst (pa_cons (pe_callB ci (by rfl) T.isinstance bs_isinstance (pa_cons (pv 0) (pa_cons (pe_glob (v := .ref (p.cl 10)) (by rfl) C_.err_10.at_ rfl) pa_nil))) (pa_cons (pe_callB ci (by rfl) T.isinstance bs_isinstance (pa_cons (pv 0) (pa_cons (pe_glob (v := .ref (p.cl 11)) (by rfl) C_.err_11.at_ rfl) pa_nil))) (pa_cons (pe_callB ci (by rfl) T.isinstance bs_isinstance (pa_cons (pv 0) (pa_cons (pe_glob (v := .ref (p.cl 12)) (by rfl) C_.err_12.at_ rfl) pa_nil))) pa_nil)))))
    (pss_cons (ps_set (i := 1) sc__law_which.nd rfl (by first | exact Or.inl rfl | exact Or.inr rfl) (pe_op op_cat (pv 1) (pe_lst (pa_cons (pe_callB ci (by rfl) T.isinstance bs_isinstance (pa_cons (pv 0) (pa_cons (pe_glob (v := .ref (p.cl 13)) (by rfl) C_.err_13.at_ rfl) pa_nil))) (pa_cons (pe_callB ci (by rfl) T.isinstance bs_isinstance (pa_cons (pv 0) (pa_cons (pe_glob (v := .ref (p.cl 14)) (by rfl) C_.err_14.at_ rfl) pa_nil))) (pa_cons (pe_callB ci (by rfl) T.isinstance bs_isinstance (pa_cons (pv 0) (pa_cons (pe_glob (v := .ref (p.cl 15)) (by rfl) C_.err_15.at_ rfl) pa_nil))) pa_nil))))))
    (pss_one (ps_ret (pe_ifExp (PW.pt (pw_and (pt_cmpR op_eq (xe_count p.K (pv 1) (pa_cons pe_bl pa_nil)) pe_int (nomark _)) (pw_and1 (pt_val (pe_callB ci (by rfl) T.isinstance bs_isinstance (pa_cons (pv 0) (pa_cons (pe_bltn (v := .ty "ValueError") (by rfl) C_.no_ve bs_ve rfl) pa_nil))))))) (xe_index p.K (pv 1) (pa_cons pe_bl pa_nil)) pe_int)))))
  · unfold whichM
    exact (k_asg ((ev_lst (es_cons (ev_isE rfl (R.kt 10 (by decide) (by decide))) (es_cons (ev_isE rfl (R.kt 11 (by decide) (by decide))) (es_cons (ev_isE rfl (R.kt 12 (by decide) (by decide))) es_nil))))).weak (fun f1 => (k_asg ((ev_cat (ev_var (x := f1) rfl) ((ev_lst (es_cons (ev_isE rfl (R.kt 13 (by decide) (by decide))) (es_cons (ev_isE rfl (R.kt 14 (by decide) (by decide))) (es_cons (ev_isE rfl (R.kt 15 (by decide) (by decide))) es_nil))))).weak)).weak (fun f2 => (k_ret (ev_if (et_and (et_test (ev_eqS (ev_countB (ev_var (x := f2) rfl) ev_bl) ev_int)) (et_B (ev_isET rfl R.kv))) (ev_indexB (ev_var (x := f2) rfl) ev_bl) ev_int))))))
abbrev s__law_refused : Stmt := top 31
theorem sc__law_refused : FnScope ["_law_ask", "_law_things", "_law_due", "_law_thing", "_law_found", "_law_error"] ["_law_ask", "_law_things", "_law_due"] (defScope s__law_refused) := ⟨rfl, rfl, rfl, by decide +kernel, rfl, by decide +kernel, by decide +kernel⟩
theorem errs (C_ : Csts p mg) : ∀ c ∈ CS_, (∃ n, ErrR p mg c n) ∧ 10 ≤ c ∧ c ≤ 15 := fun c h => by
  unfold CS_ at h
  simp only [List.mem_cons, List.not_mem_nil, or_false] at h
  rcases h with rfl | rfl
  · exact ⟨⟨_, C_.err_14⟩, by decide, by decide⟩
  · exact ⟨⟨_, C_.err_15⟩, by decide, by decide⟩
theorem ask_refused (T : Blt mg) (C_ : Csts p mg) (D_w : Df p.K mg "_law_which" s__law_which) (D_ : Df p.K mg "_law_refused" s__law_refused) : AskC P w p.K mg base "_law_refused" 6 5 (SPXref p CS_) := by
  obtain ⟨fw, fdw, Fw_, hmw⟩ := D_w.ex
  obtain ⟨g, fd, F, hm⟩ := D_.ex
  have hbw : Binds p.K fdw ["_law_error"] [] := Fw_.binds fun _ _ _ _ _ _ us hl => match us, hl with | [_], _ => rfl
  have kpw := Fw_.kp
  obtain ⟨oc, od, kV, doc, pm, an, cdw, ct, osl, rfl, lkw, hcdw⟩ := Fw_.ex
  refine ⟨g, fun lps fr hlps => askOk_of (a := "_law_ask") (ps := ["_law_things", "_law_due"]) F sc__law_refused (F.binds fun _ _ _ _ _ _ us hl => match us, hl with | [_, _, _], _ => rfl) (fun lsp ws vs H Q h => ?_) fun cdv A outer s H vs Q ws f LFv lsp hr hl C L h => ?_, hm, F.kp⟩
  · obtain ⟨_, _, _, _, _, _, rfl, _⟩ := h
    rfl
  · obtain ⟨G, v, ds, due, r, res, rfl, sg, rv, e, hlsp, q⟩ := h
    let G' : Hp := fun b => if b = f ∨ b = LFv.c then H b else G b
    have sG : Same G G' := fun b o eb => by
      show (if b = f ∨ b = LFv.c then H b else G b) = some o
      split
      · exact sg _ _ eb
      · exact eb
    have sH : Same G' H := fun b o eb => by
      have eb : (if b = f ∨ b = LFv.c then H b else G b) = some o := eb
      split at eb
      · exact eb
      · exact sg _ _ eb
    have hlG : LamAt f LFv G' := ⟨by
      show (if f = f ∨ f = LFv.c then H f else G f) = _
      rw [if_pos (.inl rfl)]; exact hl.1, by
      show (if LFv.c = f ∨ LFv.c = LFv.c then H LFv.c else G LFv.c) = _
      rw [if_pos (.inr rfl)]; exact hl.2⟩
    have st : Sts p G' H [.rs (lamR G' f), .va (.lst ds), .va (.int due), .fr, .fr, .fr] (L2.start ["_law_ask", "_law_things", "_law_due", "_law_thing", "_law_found", "_law_error"] [.ref f, v, .int due]) G' H := by
      refine ⟨.refl sH, rfl, fun i d e => ?_, fun _ => nil, fun i r' e => ?_, fun i j r1 r2 a o nij e1 e2 e3 => by cases e3⟩
      · match i, e with
        | 0, e => cases e
        | 1, e => cases e; exact ⟨v, rfl, Rp.mono sG _ rv⟩
        | 2, e => cases e; exact ⟨.int due, rfl, rfl⟩
        | 3, e => cases e
        | 4, e => cases e
        | 5, e => cases e
        | n + 6, e => exact absurd e (by simp)
      · match i, e with
        | 0, e =>
          cases e
          exact ⟨.ref f, rfl, ⟨rfl, rfl, .refl _⟩, (fun a o z => by
            have z : (none : Option HO) = some o := z
            cases z), (fun a o z => by
            have z : (none : Option HO) = some o := z
            cases z)⟩
        | 1, e => cases e
        | 2, e => cases e
        | 3, e => cases e
        | 4, e => cases e
        | 5, e => cases e
        | n + 6, e => exact absurd e (by simp)
    apply Exists.intro
    apply And.intro
    · exact (pss_cons (ps_for PassesOwn.never rfl (xi_list p.K (pv 1)) (pg_name (i := 3) sc__law_refused.nd rfl (by first | exact Or.inl rfl | exact Or.inr rfl)) (pss_cons (ps_set (i := 4) sc__law_refused.nd rfl (by first | exact Or.inl rfl | exact Or.inr rfl) (pe_un un_neg pe_int))
        (pss_cons (u := _) (L2N.ps_try_as (i := 5) (c := .ref (p.cl 16)) (Wout := fun _ _ _ _ => False) (tb := fun W => tDrop (tAct 0 f LFv ws lsp (L2.WE W) (tCons (tVar 3) tNil))) (ts := fun a cls d => tAsg (tWhich p CS_ a cls d) (gName 4)) rfl rfl sc__law_refused.nd rfl rfl ⟨by rfl, by decide, .inl C_.err_16.at_⟩ takes0N
            (fun W pn xe tk _ => pss_one (ps_expr (pe_act L C rfl hr (by decide) (fun σ => L2N.passAt tk σ) rfl (by first | exact Or.inl rfl | exact Or.inr rfl) (pa_cons (pv 3) pa_nil))))
            (fun a oe cls d pn hz hf => pss_one (ps_set (i := 4) sc__law_refused.nd rfl (by first | exact Or.inl rfl | exact Or.inr rfl)
              (pe_hot (k := 3) (i := 5) (ar := "_law_error") (SPW := SPWh p CS_ cls d) hz.2.2 hf lkw hcdw sc__law_which hbw ⟨((L2H.roomH_of hr).mono (show 4 ≤ 5 by decide)).dp, ((L2H.roomH_of hr).mono (show 4 ≤ 5 by decide)).un⟩ (by rfl) hmw kpw rfl (by first | exact Or.inl rfl | exact Or.inr rfl) fun A outer s H Q hr2 hq => by
                obtain ⟨c, hc, rfl, rfl, k⟩ := hq
                obtain ⟨⟨n, R⟩, h1, h2⟩ := errs C_ c hc
                obtain ⟨t, d1, d2⟩ := which_body T C_ R (hz.zc) hf (A := A) (outer := outer) (s := s) (H := H) hr2
                refine ⟨t, d1, d2 _ (whichM_ok c h1 h2) nil H _ nil H (sts_start (n := 1) (ds := [.adr a]) (fun _ _ z => by cases z) ⟨_, _, rfl, rfl, rfl⟩ rfl) _ fun v G2 H2 g2 r2 => ?_⟩
                rw [show v = V.int ((c : Int) - 10) from r2]
                exact k H2 g2.h))))
          (pss_cons (ps_if (pt_cmpR op_ne (pv 4) (pv 2) (nomark _)) (pss_one (ps_ret pe_bl)) pss_nil) pss_nil)))) (pss_one (ps_ret pe_bl)))
    · exact (show Bk p _ [.rs (lamR G' f), .va (.lst ds), .va (.int due), .fr, .fr, .fr] (refM CS_ r ds due) (pR p false Bool) from by
        unfold refM
        exact (k_seqR (k_forB (envS := fun (_ : Unit) => [.rs (lamR G' f), .va (.lst ds), .va (.int due), .fr, .fr, .fr]) (mx := some ds) (ei_list (ev_var (x := ds) (by show some (Sl.va (.lst ds)) = some (Sl.va (.lst (ds.map id))); rw [List.map_id]))) leE.refl (fun _ _ => tg_name)
          (fun _ d => (k_asg (nw := false) (me := (some (1 : Int)).bind fun i => some (-i)) (rest := fun _ => (r d).bind fun c => if c ∈ CS_ then (if (!decide ((c : Int) - 10 = due)) = true then some (Rr.rt (β := Bool) false) else some (Rr.nx ())) else none) (ev_neg (ev_int (i := 1))) (fun (x : Int) => (k_tryR (ds := ds) (due := due) (d := d) (x := x) (rest := fun c => if (!decide ((c : Int) - 10 = due)) = true then some (Rr.rt (β := Bool) false) else some (Rr.nx ())) (fun c hc => (errs C_ c hc).1) hlG (fun d c hc G1 H1 u Q1 E1 s1 => hlsp d c hc G1 H1 u Q1 E1 (sG.trans s1)) (fun c => (k_ifB (envN := fun (_ : Unit) => [.rs (lamR G' f), .va (.lst ds), .va (.int due), .fr, .fr, .fr]) (mc := some (!decide ((c : Int) - 10 = due))) (ma := some false) (mb := some (Rr.nx ())) (et_test (ev_neS (ma := some ((c : Int) - 10)) (mb := some due) (ev_var (x := (c : Int) - 10) rfl) (ev_var (x := due) rfl))) (k_ret ev_bl) (k_endB (x := ()) (le_r (le_r (le_r (le_f (le_f (le_f le_nil)))))))))))))) (fun _ => (k_ret ev_bl)))
        ) res e G' H _ G' H st _ fun v2 G2 H2 g2 r2 => by
          rw [show v2 = V.bl res from r2]
          exact q H2 g2.h
end
end Fw

set_option Elab.async false
set_option linter.all false
set_option maxRecDepth 100000
set_option maxHeartbeats 4000000
/-! M12: law 12 holds, in plain Lean. -/
namespace Fw
open PySem L2 PU
theorem kb (a b : String) (r : Bool) (h : kitB a b = some r) : kitB a b = some r := h
/-- whole and no truth -/
def whl : D → Bool
  | .int _ => true
  | _ => false
theorem whole_D {d : D} (h : (tyD d).isSome = true) : is_whole_D d = some (whl d) := by
  unfold is_whole_D isiD
  cases d with
  | non => simp only [Option.bind_some, tyD, show kitB "NoneType" "int" = some false by decide +kernel, Bool.false_eq_true, if_false, whl]
  | bl b => simp only [Option.bind_some, tyD, show kitB "bool" "int" = some true by decide +kernel, show kitB "bool" "bool" = some true by decide +kernel, if_true, Bool.not_true, whl]
  | int b => simp only [Option.bind_some, tyD, show kitB "int" "int" = some true by decide +kernel, show kitB "int" "bool" = some false by decide +kernel, if_true, Bool.not_false, whl]
  | str b => simp only [Option.bind_some, tyD, show kitB "str" "int" = some false by decide +kernel, Bool.false_eq_true, if_false, whl]
  | lst b => simp only [Option.bind_some, tyD, show kitB "list" "int" = some false by decide +kernel, Bool.false_eq_true, if_false, whl]
  | tup b => simp only [Option.bind_some, tyD, show kitB "tuple" "int" = some false by decide +kernel, Bool.false_eq_true, if_false, whl]
  | dE => simp only [Option.bind_some, tyD, show kitB "dict" "int" = some false by decide +kernel, Bool.false_eq_true, if_false, whl]
  | scr b => cases h
  | ins a b => cases h
  | adr b => cases h
def btw (a b : Int) : D → Bool
  | .int x => decide (a ≤ x) && decide (x ≤ b)
  | _ => false
theorem between_D {d : D} {a b : Int} (h : (tyD d).isSome = true) : is_between_D d a b = some (btw a b d) := by
  unfold is_between_D
  simp only [Option.bind_some, whole_D h]
  cases d with
  | int x =>
    simp only [whl, if_true, intD, Option.bind_some, btw]
    by_cases c : a ≤ x <;> simp [c]
  | _ => rfl
abbrev Tk (d : D) : Prop := (tyD d).isSome = true
theorem check_D {S : Shf} {d : D} (h : Tk d) : checkX S d = some (if btw 0 (S.books.length - 1) d then none else some 14) := by
  unfold checkX
  simp only [Option.bind_some, between_D h]
  cases btw 0 (S.books.length - 1) d <;> rfl
theorem refM_all {r : D → Option Nat} {ds : List D} {c : Nat} {due : Int} (h : ∀ d ∈ ds, r d = some c) (hc : c ∈ CS_) (hd : (c : Int) - 10 = due) : refM CS_ r ds due = some true := by
  subst hd
  unfold refM
  have : forB (β := Bool) (fun (_ : Unit) (d : D) => (r d).bind fun c' => if c' ∈ CS_ then (if (!decide ((c' : Int) - 10 = (c : Int) - 10)) = true then some (Rr.rt false) else some (Rr.nx ())) else none) () ds = some (.nx ()) := by
    induction ds with
    | nil => rfl
    | cons d ds ih =>
      show Option.bind ((r d).bind _) _ = _
      rw [h d List.mem_cons_self]
      simp only [Option.bind_some, hc, if_true, decide_true, Bool.not_true, Bool.false_eq_true, if_false]
      exact ih fun x hx => h x (List.mem_cons_of_mem _ hx)
  rw [this]
  rfl
/-- what are no numbers from 0 on -/
theorem nums (m : Int) : _law_no_numbers m = some [.non, .str "1", .bl true, .bl false, .lst [.int 1], .tup [.int 1], .dE, .int (-1), .int (-1 - m)] := rfl
abbrev BkL (m : Int) : List D := [.non, .str "1", .bl true, .bl false, .lst [.int 1], .tup [.int 1], .dE, .int (-1), .int (-1 - m), .int 4, .int (4 + m)]
theorem books_ty {m : Int} : ∀ d ∈ BkL m, Tk d := fun d h => by
  simp only [List.mem_cons, List.not_mem_nil, or_false] at h
  rcases h with rfl | rfl | rfl | rfl | rfl | rfl | rfl | rfl | rfl | rfl | rfl <;> rfl
theorem books_out {m : Int} (hm : 0 ≤ m) : ∀ d ∈ BkL m, btw 0 3 d = false := fun d h => by
  simp only [List.mem_cons, List.not_mem_nil, or_false] at h
  rcases h with rfl | rfl | rfl | rfl | rfl | rfl | rfl | rfl | rfl | rfl | rfl <;> simp [btw] <;> omega
abbrev S0 : Shf := ⟨[3, 0, 2, 1], [1, 2, 3, 9], [2], 0, []⟩
abbrev S1 : Shf := ⟨[0, 2, 1, 3], [1, 2, 3, 9], [2], 9, [(3, 3)]⟩
abbrev S2 : Shf := ⟨[1, 2, 0, 3], [1, 2, 3, 9], [2], 9, [(3, 3)]⟩
abbrev S4 : Shf := ⟨[0, 2, 1, 3], [1, 2, 3, 9], [2], 9, [(3, 3)]⟩
abbrev S5 : Shf := ⟨[0, 1, 2, 3], [1, 2, 3, 9], [2], 11, [(3, 3), (1, 1)]⟩
abbrev S6 : Shf := ⟨[0, 1, 2, 3], [1, 2, 3, 9], [2], 13, [(3, 3), (1, 1), (1, 1)]⟩
theorem s_0 : mk_Shelf [3, 0, 2, 1] [1, 2, 3, 9] [2] = some S0 := by kernel_rfl
theorem s_1 : Shelf_put S0 3 3 = some (some 2, S1) := by kernel_rfl
theorem s_2 : Shelf_mix S1 0 1 = some (some 1, S2) := by kernel_rfl
theorem s_3 : Shelf_mix S2 2 2 = some (some 1, S2) := by kernel_rfl
theorem s_4 : Shelf_mix S2 1 0 = some (some 2, S4) := by kernel_rfl
theorem s_5 : Shelf_put S4 1 1 = some (some 0, S5) := by kernel_rfl
theorem s_6 : Shelf_put S5 1 1 = some (some 0, S6) := by kernel_rfl
abbrev LS : List D := (_law_state S2).getD []
theorem st_2 : ∃ L, _law_state S2 = some L ∧ eqD? (Enc.enc L) (Enc.enc L) = some true := ⟨LS, by kernel_rfl, by kernel_rfl⟩
theorem o_6 : pick [6] (shf_cls S6) (ms_order_0 (shf_cls S6) S6) = some [0, 1, 2, 3] := rfl
theorem p_6 : pick [6] (shf_cls S6) (ms_spent_0 (shf_cls S6) S6) = some 13 := rfl
theorem q_6 : pick [6] (shf_cls S6) (ms_plan_0 (shf_cls S6) S6) = some [(3, 3), (1, 1), (1, 1)] := rfl
theorem put_no {S : Shf} {d e : D} (h : Tk d) (hb : btw 0 (S.books.length - 1) d = false) : putX S d e = some 14 := by
  unfold putX
  rw [check_D h, hb]; rfl
theorem mix_no {S : Shf} {d e : D} (h : Tk d) (hb : btw 0 (S.books.length - 1) d = false) : mixX S d e = some 14 := by
  unfold mixX
  rw [check_D h, hb]; rfl
theorem put_2 (e : D) : putX S2 (.int 2) e = some 14 := by
  unfold putX
  rw [check_D (show Tk (.int 2) from rfl)]
  rfl
theorem put_0 {e : D} (h : Tk e) (hb : btw 0 3 e = false) : putX S2 (.int 0) e = some 15 := by
  unfold putX
  rw [check_D (show Tk (.int 0) from rfl)]
  have e1 : (if btw 0 ((S2.books.length : Int) - 1) (.int 0) then none else some 14 : Option Nat) = none := rfl
  rw [e1]
  have e2 : decide ((0 : Int) ∈ S2.nailed) = false := by decide
  have e3 : ((S2.books.length : Nat) : Int) - 1 = 3 := rfl
  simp only [Option.bind_some, intD, e2, Bool.false_eq_true, if_false, e3, between_D h, hb, Bool.not_false, if_true]
theorem mix_2 {e : D} (h : Tk e) (hb : btw 0 3 e = false) : mixX S2 (.int 2) e = some 14 := by
  unfold mixX
  rw [check_D (show Tk (.int 2) from rfl)]
  have e1 : (if btw 0 ((S2.books.length : Int) - 1) (.int 2) then none else some 14 : Option Nat) = none := rfl
  have e3 : ((S2.books.length : Nat) : Int) - 1 = 3 := rfl
  rw [e1, Option.bind_some]
  show (checkX S2 e).bind _ = _
  rw [check_D h, e3, hb]; rfl
theorem law_true (ns : List Int) (h : ns.length ≤ 63) : law ⟨ns⟩ = some true := by
  obtain ⟨L, e_st, e_eq⟩ := st_2
  unfold law
  have key : ∀ {f : Unit → Int → Option (Rr Unit Bool)}, (∀ a, f () a = some (.nx ())) → ∀ cs : List Int, forB f () cs = some (.nx ()) := fun {f} hf cs => by
    induction cs with
    | nil => rfl
    | cons a cs ih =>
      show Option.bind (f () a) _ = _
      rw [hf a]
      exact ih
  have ec : ∀ (a b : List Int), a.length ≤ 63 → b.length ≤ 1 → cat? a b = some (a ++ b) := fun a b h1 h2 => by
    unfold cat?
    rw [if_pos (by omega)]
  simp -implicitDefEqProofs only [Option.bind_some]
  rw [ec _ _ (by unfold PU.cut; rw [List.length_take, List.length_drop]; omega) (by simp)]
  simp -implicitDefEqProofs only [Option.bind_some]
  rw [key]
  · rfl
  · intro a
    have e_pow : pow? 10 20 = some (10 ^ 20) := rfl
    obtain ⟨m, e_m, hm⟩ : ∃ m, fmod? (if a < 0 then -a else a) (10 ^ 20) = some m ∧ 0 ≤ m := by
      refine ⟨_, if_pos (by decide), ?_⟩
      exact Int.fmod_nonneg_of_pos _ (by decide)
    have c1 : cat? [D.non, .str "1", .bl true, .bl false, .lst [.int 1], .tup [.int 1], .dE, .int (-1), .int (-1 - m)] [(Enc.enc (4 : Int) : D), Enc.enc (4 + m)] = some (BkL m) := rfl
    have c2 : cat? (BkL m) [(Enc.enc (2 : Int) : D)] = some (BkL m ++ [.int 2]) := rfl
    have r1 : refM CS_ (fun d => putX S2 d .non) (BkL m ++ [.int 2]) 4 = some true := refM_all (c := 14) (fun d hd => by
      rcases List.mem_append.mp hd with hd | hd
      · exact put_no (books_ty d hd) (books_out hm d hd)
      · rw [List.mem_singleton.mp hd]; exact put_2 _) (by decide) rfl
    have r2 : refM CS_ (fun d => putX S2 (.int 2) d) [(Enc.enc (0 : Int) : D), Enc.enc (3 : Int), Enc.enc ()] 4 = some true := refM_all (c := 14) (fun d hd => put_2 _) (by decide) rfl
    have r3 : refM CS_ (fun d => putX S2 (.int 0) d) (BkL m) 5 = some true := refM_all (c := 15) (fun d hd => put_0 (books_ty d hd) (books_out hm d hd)) (by decide) rfl
    have r4 : refM CS_ (fun d => mixX S2 d .non) (BkL m) 4 = some true := refM_all (c := 14) (fun d hd => mix_no (books_ty d hd) (books_out hm d hd)) (by decide) rfl
    have r5 : refM CS_ (fun d => mixX S2 (.int 2) d) (BkL m) 4 = some true := refM_all (c := 14) (fun d hd => mix_2 (books_ty d hd) (books_out hm d hd)) (by decide) rfl
    simp -implicitDefEqProofs only [Option.bind_some, e_pow, e_m, s_0, s_1, s_2, thn2, decide_true, Bool.not_true, Bool.false_eq_true, if_false, e_st, nums, c1, c2, r1, r2, r3, r4, r5, e_eq, s_3, s_4, s_5, s_6, o_6, p_6, q_6]
end Fw

set_option pp.maxSteps 200
set_option Elab.async false
set_option maxRecDepth 100000
set_option maxHeartbeats 20000000
set_option linter.all false
namespace Fw
open PySem L2 PU
open PU.Enc
/-! ## the end -/
theorem kit_tyV {K : PySem.W.Frag} {C : Addr} {n : String} (hk : PySem.W.kitMeta n = true) (h : PySem.W.subIn K (.ref C) (.type n) = some true) : PySem.W.kitOne K (.ref C) (.type n) = some true := by
  unfold PySem.W.kitOne
  rw [if_neg (by intro z; cases beq_iff_eq.mp z)]
  show (if PySem.W.kitMeta n = true then _ else none) = _
  rw [if_pos hk]; exact h
theorem kt_six {K : PySem.W.Frag} {v : Value} {cl : Nat → Addr} {b0 b1 b2 b3 b4 b5 : Bool} {i : Nat} (h0 : PySem.W.kitOne K v (.ref (cl 10)) = some b0) (h1 : PySem.W.kitOne K v (.ref (cl 11)) = some b1) (h2 : PySem.W.kitOne K v (.ref (cl 12)) = some b2) (h3 : PySem.W.kitOne K v (.ref (cl 13)) = some b3) (h4 : PySem.W.kitOne K v (.ref (cl 14)) = some b4) (h5 : PySem.W.kitOne K v (.ref (cl 15)) = some b5)
    (e : b0 = decide (i = 10) ∧ b1 = decide (i = 11) ∧ b2 = decide (i = 12) ∧ b3 = decide (i = 13) ∧ b4 = decide (i = 14) ∧ b5 = decide (i = 15)) : ∀ j, 10 ≤ j → j ≤ 15 → PySem.W.kitOne K v (.ref (cl j)) = some (decide (i = j)) := fun j x y => by
  obtain ⟨rfl, rfl, rfl, rfl, rfl, rfl⟩ := e
  have : j = 10 ∨ j = 11 ∨ j = 12 ∨ j = 13 ∨ j = 14 ∨ j = 15 := by omega
  rcases this with rfl | rfl | rfl | rfl | rfl | rfl
  · exact h0
  · exact h1
  · exact h2
  · exact h3
  · exact h4
  · exact h5
theorem all_mk {l : PySem.W.OpenLaw} {w : World} {K : PySem.W.Frag} {h : Heap} {mg : Str → Option Value} {fa C6 C10 C11 C12 C13 C14 C15 C16 f_heights f_staying f_stand_right f_free_ones f_clash f_weight_of f_owed_by f_put_at f_place_among f_is_whole f_is_between f_are_books f_check_weights f_check_all f_check_nailed f_Shelf f_Shelf_owed f_Shelf_order f_Shelf_spent f_Shelf_plan f_Shelf_helpful f_Shelf_check f_Shelf_put f_Shelf_mix f__law_no_numbers f__law_state f_law f__law_which f__law_refused c_law_ P_ : Addr} (X : K.In h) (G : h.Ns mainGlobals mg) (hfa : mg "law" = some (.ref fa))
    {t_MOST_WEIGHT : Tok}
    {t_MOST_BOOKS : Tok}
    {od_heights an_heights : Option Addr} {sl_heights : Array (Option Value)} {oc_heights kV_heights dc_heights pm_heights cd_heights ct_heights : Value}
    {od_staying an_staying : Option Addr} {sl_staying : Array (Option Value)} {oc_staying kV_staying dc_staying pm_staying cd_staying ct_staying : Value}
    {od_stand_right an_stand_right : Option Addr} {sl_stand_right : Array (Option Value)} {oc_stand_right kV_stand_right dc_stand_right pm_stand_right cd_stand_right ct_stand_right : Value}
    {od_free_ones an_free_ones : Option Addr} {sl_free_ones : Array (Option Value)} {oc_free_ones kV_free_ones dc_free_ones pm_free_ones cd_free_ones ct_free_ones : Value}
    {od_clash an_clash : Option Addr} {sl_clash : Array (Option Value)} {oc_clash kV_clash dc_clash pm_clash cd_clash ct_clash : Value}
    {od_weight_of an_weight_of : Option Addr} {sl_weight_of : Array (Option Value)} {oc_weight_of kV_weight_of dc_weight_of pm_weight_of cd_weight_of ct_weight_of : Value}
    {od_owed_by an_owed_by : Option Addr} {sl_owed_by : Array (Option Value)} {oc_owed_by kV_owed_by dc_owed_by pm_owed_by cd_owed_by ct_owed_by : Value}
    {od_put_at an_put_at : Option Addr} {sl_put_at : Array (Option Value)} {oc_put_at kV_put_at dc_put_at pm_put_at cd_put_at ct_put_at : Value}
    {od_place_among an_place_among : Option Addr} {sl_place_among : Array (Option Value)} {oc_place_among kV_place_among dc_place_among pm_place_among cd_place_among ct_place_among : Value}
    {od_is_whole an_is_whole : Option Addr} {sl_is_whole : Array (Option Value)} {oc_is_whole kV_is_whole dc_is_whole pm_is_whole cd_is_whole ct_is_whole : Value}
    {od_is_between an_is_between : Option Addr} {sl_is_between : Array (Option Value)} {oc_is_between kV_is_between dc_is_between pm_is_between cd_is_between ct_is_between : Value}
    {od_are_books an_are_books : Option Addr} {sl_are_books : Array (Option Value)} {oc_are_books kV_are_books dc_are_books pm_are_books cd_are_books ct_are_books : Value}
    {od_check_weights an_check_weights : Option Addr} {sl_check_weights : Array (Option Value)} {oc_check_weights kV_check_weights dc_check_weights pm_check_weights cd_check_weights ct_check_weights : Value}
    {od_check_all an_check_all : Option Addr} {sl_check_all : Array (Option Value)} {oc_check_all kV_check_all dc_check_all pm_check_all cd_check_all ct_check_all : Value}
    {od_check_nailed an_check_nailed : Option Addr} {sl_check_nailed : Array (Option Value)} {oc_check_nailed kV_check_nailed dc_check_nailed pm_check_nailed cd_check_nailed ct_check_nailed : Value}
    {od_Shelf an_Shelf : Option Addr} {sl_Shelf : Array (Option Value)} {oc_Shelf kV_Shelf dc_Shelf pm_Shelf cd_Shelf ct_Shelf : Value}
    {od_Shelf_owed an_Shelf_owed : Option Addr} {sl_Shelf_owed : Array (Option Value)} {oc_Shelf_owed kV_Shelf_owed dc_Shelf_owed pm_Shelf_owed cd_Shelf_owed ct_Shelf_owed : Value}
    {od_Shelf_order an_Shelf_order : Option Addr} {sl_Shelf_order : Array (Option Value)} {oc_Shelf_order kV_Shelf_order dc_Shelf_order pm_Shelf_order cd_Shelf_order ct_Shelf_order : Value}
    {od_Shelf_spent an_Shelf_spent : Option Addr} {sl_Shelf_spent : Array (Option Value)} {oc_Shelf_spent kV_Shelf_spent dc_Shelf_spent pm_Shelf_spent cd_Shelf_spent ct_Shelf_spent : Value}
    {od_Shelf_plan an_Shelf_plan : Option Addr} {sl_Shelf_plan : Array (Option Value)} {oc_Shelf_plan kV_Shelf_plan dc_Shelf_plan pm_Shelf_plan cd_Shelf_plan ct_Shelf_plan : Value}
    {od_Shelf_helpful an_Shelf_helpful : Option Addr} {sl_Shelf_helpful : Array (Option Value)} {oc_Shelf_helpful kV_Shelf_helpful dc_Shelf_helpful pm_Shelf_helpful cd_Shelf_helpful ct_Shelf_helpful : Value}
    {od_Shelf_check an_Shelf_check : Option Addr} {sl_Shelf_check : Array (Option Value)} {oc_Shelf_check kV_Shelf_check dc_Shelf_check pm_Shelf_check cd_Shelf_check ct_Shelf_check : Value}
    {od_Shelf_put an_Shelf_put : Option Addr} {sl_Shelf_put : Array (Option Value)} {oc_Shelf_put kV_Shelf_put dc_Shelf_put pm_Shelf_put cd_Shelf_put ct_Shelf_put : Value}
    {od_Shelf_mix an_Shelf_mix : Option Addr} {sl_Shelf_mix : Array (Option Value)} {oc_Shelf_mix kV_Shelf_mix dc_Shelf_mix pm_Shelf_mix cd_Shelf_mix ct_Shelf_mix : Value}
    {od__law_no_numbers an__law_no_numbers : Option Addr} {sl__law_no_numbers : Array (Option Value)} {oc__law_no_numbers kV__law_no_numbers dc__law_no_numbers pm__law_no_numbers cd__law_no_numbers ct__law_no_numbers : Value}
    {od__law_state an__law_state : Option Addr} {sl__law_state : Array (Option Value)} {oc__law_state kV__law_state dc__law_state pm__law_state cd__law_state ct__law_state : Value}
    {od_law an_law : Option Addr} {sl_law : Array (Option Value)} {oc_law kV_law dc_law pm_law ct_law : Value}
    {od__law_which an__law_which : Option Addr} {sl__law_which : Array (Option Value)} {oc__law_which kV__law_which dc__law_which pm__law_which cd__law_which ct__law_which : Value}
    {od__law_refused an__law_refused : Option Addr} {sl__law_refused : Array (Option Value)} {oc__law_refused kV__law_refused dc__law_refused pm__law_refused cd__law_refused ct__law_refused : Value}
    {tyc_ : Value} {odc_ : Option Addr} {vsc_ : Array Value} {slc_ : Array (Option Value)}
    (z_len : PySem.W.nsIn K mainGlobals "len" = some none)
    (z_sum : PySem.W.nsIn K mainGlobals "sum" = some none)
    (z_max : PySem.W.nsIn K mainGlobals "max" = some none)
    (z_min : PySem.W.nsIn K mainGlobals "min" = some none)
    (z_all : PySem.W.nsIn K mainGlobals "all" = some none)
    (z_any : PySem.W.nsIn K mainGlobals "any" = some none)
    (z_sorted : PySem.W.nsIn K mainGlobals "sorted" = some none)
    (z_list : PySem.W.nsIn K mainGlobals "list" = some none)
    (z_range : PySem.W.nsIn K mainGlobals "range" = some none)
    (z_enumerate : PySem.W.nsIn K mainGlobals "enumerate" = some none)
    (z_zip : PySem.W.nsIn K mainGlobals "zip" = some none)
    (z_isinstance : PySem.W.nsIn K mainGlobals "isinstance" = some none)
    (z_int : PySem.W.nsIn K mainGlobals "int" = some none)
    (z_bool : PySem.W.nsIn K mainGlobals "bool" = some none)
    (z_abs : PySem.W.nsIn K mainGlobals "abs" = some none)
    (z_set : PySem.W.nsIn K mainGlobals "set" = some none)
    (z_tuple : PySem.W.nsIn K mainGlobals "tuple" = some none)
    (z_str : PySem.W.nsIn K mainGlobals "str" = some none)
    (ac_6 : PySem.W.nsIn K mainGlobals "Shelf" = some (some (.ref C6)))
    (pg_6 : PySem.W.plainGet K C6 Str.empty = true)
    (hd_6 : PySem.W.hasDictIn K C6 = true)
    (po_6 : PySem.W.plainOver K C6 = true)
    (sa_6 : PySem.W.findIn K (.ref C6) "__setattr__" = some (some (.builtin "object.__setattr__")))
    (ha_6 : PySem.W.findIn K (.ref C6) "__class__" = some (some (.builtin "object.__class__")))
    (mo_6 : PySem.W.mroIn K C6 (.type "object") = some true)
    (mk_6 : PySem.W.makesIn K C6 = true)
    (kc_6 : PySem.W.keepIn K (.ref C6) = true)
    (hn_ : PySem.W.specialIn K (.builtin "object.__class__") "__get__" = some (some (.builtin "getset_descriptor.__get__")))
    (tk_ : PySem.W.takesIn K (.builtin "object.__class__") = some true)
    (a_MOST_WEIGHT : PySem.W.nsIn K mainGlobals "MOST_WEIGHT" = some (some (.int 9 t_MOST_WEIGHT)))
    (a_MOST_BOOKS : PySem.W.nsIn K mainGlobals "MOST_BOOKS" = some (some (.int 24 t_MOST_BOOKS)))
    (na_6_done : PySem.W.findIn K (.ref C6) "done" = some none)
    (na_6_paid : PySem.W.findIn K (.ref C6) "paid" = some none)
    (na_6_nailed : PySem.W.findIn K (.ref C6) "nailed" = some none)
    (na_6_weights : PySem.W.findIn K (.ref C6) "weights" = some none)
    (na_6_books : PySem.W.findIn K (.ref C6) "books" = some none)
    (ac_10 : PySem.W.nsIn K mainGlobals "BadOrder" = some (some (.ref C10)))
    (ac_11 : PySem.W.nsIn K mainGlobals "BadWeights" = some (some (.ref C11)))
    (ac_12 : PySem.W.nsIn K mainGlobals "BadNailed" = some (some (.ref C12)))
    (ac_13 : PySem.W.nsIn K mainGlobals "BadPlan" = some (some (.ref C13)))
    (ac_14 : PySem.W.nsIn K mainGlobals "BadBook" = some (some (.ref C14)))
    (hg_14 : PySem.W.findIn K (.ref C14) "__getattribute__" = some (some (.builtin "BaseException.__getattribute__")))
    (hk_14 : PySem.W.findIn K (.ref C14) "__getattr__" = some none)
    (hs_14 : PySem.W.subIn K (.ref C14) (.type "BaseException") = some true)
    (hd_14 : PySem.W.hasDictIn K C14 = true)
    (ha_14 : PySem.W.findIn K (.ref C14) "__class__" = some (some (.builtin "object.__class__")))
    (hm_14 : PySem.W.mroIn K C14 (.type "object") = some true)
    (xq_14 : PySem.W.excIn K C14 veBm "ValueError.__new__" = true)
    (kp_14 : PySem.W.keepIn K (.ref C14) = true)
    (ty_14 : PySem.W.typeIn K (.ref C14) = some (.type "type"))
    (sv_14 : PySem.W.subIn K (.ref C14) (.type "ValueError") = some true)
    (ac_15 : PySem.W.nsIn K mainGlobals "BadPlace" = some (some (.ref C15)))
    (hg_15 : PySem.W.findIn K (.ref C15) "__getattribute__" = some (some (.builtin "BaseException.__getattribute__")))
    (hk_15 : PySem.W.findIn K (.ref C15) "__getattr__" = some none)
    (hs_15 : PySem.W.subIn K (.ref C15) (.type "BaseException") = some true)
    (hd_15 : PySem.W.hasDictIn K C15 = true)
    (ha_15 : PySem.W.findIn K (.ref C15) "__class__" = some (some (.builtin "object.__class__")))
    (hm_15 : PySem.W.mroIn K C15 (.type "object") = some true)
    (xq_15 : PySem.W.excIn K C15 veBm "ValueError.__new__" = true)
    (kp_15 : PySem.W.keepIn K (.ref C15) = true)
    (ty_15 : PySem.W.typeIn K (.ref C15) = some (.type "type"))
    (sv_15 : PySem.W.subIn K (.ref C15) (.type "ValueError") = some true)
    (ac_16 : PySem.W.nsIn K mainGlobals "BookError" = some (some (.ref C16)))
    (z_ve : PySem.W.nsIn K mainGlobals "ValueError" = some none)
    (a_heights : PySem.W.nsIn K mainGlobals "heights" = some (some (.ref f_heights)))
    (l_heights : K.lookup f_heights = some ⟨oc_heights, od_heights, .func (PySem.W.fnOf "heights" "heights" (defArgs s_heights) (defBody s_heights) (defScope s_heights) .none kV_heights dc_heights pm_heights an_heights cd_heights ct_heights), sl_heights⟩)
    (c_heights : PySem.W.codeIn K cd_heights "heights" = true)
    (k_heights : PySem.W.keepIn K (.ref f_heights) = true)
    (a_staying : PySem.W.nsIn K mainGlobals "staying" = some (some (.ref f_staying)))
    (l_staying : K.lookup f_staying = some ⟨oc_staying, od_staying, .func (PySem.W.fnOf "staying" "staying" (defArgs s_staying) (defBody s_staying) (defScope s_staying) .none kV_staying dc_staying pm_staying an_staying cd_staying ct_staying), sl_staying⟩)
    (c_staying : PySem.W.codeIn K cd_staying "staying" = true)
    (k_staying : PySem.W.keepIn K (.ref f_staying) = true)
    (a_stand_right : PySem.W.nsIn K mainGlobals "stand_right" = some (some (.ref f_stand_right)))
    (l_stand_right : K.lookup f_stand_right = some ⟨oc_stand_right, od_stand_right, .func (PySem.W.fnOf "stand_right" "stand_right" (defArgs s_stand_right) (defBody s_stand_right) (defScope s_stand_right) .none kV_stand_right dc_stand_right pm_stand_right an_stand_right cd_stand_right ct_stand_right), sl_stand_right⟩)
    (c_stand_right : PySem.W.codeIn K cd_stand_right "stand_right" = true)
    (k_stand_right : PySem.W.keepIn K (.ref f_stand_right) = true)
    (a_free_ones : PySem.W.nsIn K mainGlobals "free_ones" = some (some (.ref f_free_ones)))
    (l_free_ones : K.lookup f_free_ones = some ⟨oc_free_ones, od_free_ones, .func (PySem.W.fnOf "free_ones" "free_ones" (defArgs s_free_ones) (defBody s_free_ones) (defScope s_free_ones) .none kV_free_ones dc_free_ones pm_free_ones an_free_ones cd_free_ones ct_free_ones), sl_free_ones⟩)
    (c_free_ones : PySem.W.codeIn K cd_free_ones "free_ones" = true)
    (k_free_ones : PySem.W.keepIn K (.ref f_free_ones) = true)
    (a_clash : PySem.W.nsIn K mainGlobals "clash" = some (some (.ref f_clash)))
    (l_clash : K.lookup f_clash = some ⟨oc_clash, od_clash, .func (PySem.W.fnOf "clash" "clash" (defArgs s_clash) (defBody s_clash) (defScope s_clash) .none kV_clash dc_clash pm_clash an_clash cd_clash ct_clash), sl_clash⟩)
    (c_clash : PySem.W.codeIn K cd_clash "clash" = true)
    (k_clash : PySem.W.keepIn K (.ref f_clash) = true)
    (a_weight_of : PySem.W.nsIn K mainGlobals "weight_of" = some (some (.ref f_weight_of)))
    (l_weight_of : K.lookup f_weight_of = some ⟨oc_weight_of, od_weight_of, .func (PySem.W.fnOf "weight_of" "weight_of" (defArgs s_weight_of) (defBody s_weight_of) (defScope s_weight_of) .none kV_weight_of dc_weight_of pm_weight_of an_weight_of cd_weight_of ct_weight_of), sl_weight_of⟩)
    (c_weight_of : PySem.W.codeIn K cd_weight_of "weight_of" = true)
    (k_weight_of : PySem.W.keepIn K (.ref f_weight_of) = true)
    (a_owed_by : PySem.W.nsIn K mainGlobals "owed_by" = some (some (.ref f_owed_by)))
    (l_owed_by : K.lookup f_owed_by = some ⟨oc_owed_by, od_owed_by, .func (PySem.W.fnOf "owed_by" "owed_by" (defArgs s_owed_by) (defBody s_owed_by) (defScope s_owed_by) .none kV_owed_by dc_owed_by pm_owed_by an_owed_by cd_owed_by ct_owed_by), sl_owed_by⟩)
    (c_owed_by : PySem.W.codeIn K cd_owed_by "owed_by" = true)
    (k_owed_by : PySem.W.keepIn K (.ref f_owed_by) = true)
    (a_put_at : PySem.W.nsIn K mainGlobals "put_at" = some (some (.ref f_put_at)))
    (l_put_at : K.lookup f_put_at = some ⟨oc_put_at, od_put_at, .func (PySem.W.fnOf "put_at" "put_at" (defArgs s_put_at) (defBody s_put_at) (defScope s_put_at) .none kV_put_at dc_put_at pm_put_at an_put_at cd_put_at ct_put_at), sl_put_at⟩)
    (c_put_at : PySem.W.codeIn K cd_put_at "put_at" = true)
    (k_put_at : PySem.W.keepIn K (.ref f_put_at) = true)
    (a_place_among : PySem.W.nsIn K mainGlobals "place_among" = some (some (.ref f_place_among)))
    (l_place_among : K.lookup f_place_among = some ⟨oc_place_among, od_place_among, .func (PySem.W.fnOf "place_among" "place_among" (defArgs s_place_among) (defBody s_place_among) (defScope s_place_among) .none kV_place_among dc_place_among pm_place_among an_place_among cd_place_among ct_place_among), sl_place_among⟩)
    (c_place_among : PySem.W.codeIn K cd_place_among "place_among" = true)
    (k_place_among : PySem.W.keepIn K (.ref f_place_among) = true)
    (a_is_whole : PySem.W.nsIn K mainGlobals "is_whole" = some (some (.ref f_is_whole)))
    (l_is_whole : K.lookup f_is_whole = some ⟨oc_is_whole, od_is_whole, .func (PySem.W.fnOf "is_whole" "is_whole" (defArgs s_is_whole) (defBody s_is_whole) (defScope s_is_whole) .none kV_is_whole dc_is_whole pm_is_whole an_is_whole cd_is_whole ct_is_whole), sl_is_whole⟩)
    (c_is_whole : PySem.W.codeIn K cd_is_whole "is_whole" = true)
    (k_is_whole : PySem.W.keepIn K (.ref f_is_whole) = true)
    (a_is_between : PySem.W.nsIn K mainGlobals "is_between" = some (some (.ref f_is_between)))
    (l_is_between : K.lookup f_is_between = some ⟨oc_is_between, od_is_between, .func (PySem.W.fnOf "is_between" "is_between" (defArgs s_is_between) (defBody s_is_between) (defScope s_is_between) .none kV_is_between dc_is_between pm_is_between an_is_between cd_is_between ct_is_between), sl_is_between⟩)
    (c_is_between : PySem.W.codeIn K cd_is_between "is_between" = true)
    (k_is_between : PySem.W.keepIn K (.ref f_is_between) = true)
    (a_are_books : PySem.W.nsIn K mainGlobals "are_books" = some (some (.ref f_are_books)))
    (l_are_books : K.lookup f_are_books = some ⟨oc_are_books, od_are_books, .func (PySem.W.fnOf "are_books" "are_books" (defArgs s_are_books) (defBody s_are_books) (defScope s_are_books) .none kV_are_books dc_are_books pm_are_books an_are_books cd_are_books ct_are_books), sl_are_books⟩)
    (c_are_books : PySem.W.codeIn K cd_are_books "are_books" = true)
    (k_are_books : PySem.W.keepIn K (.ref f_are_books) = true)
    (a_check_weights : PySem.W.nsIn K mainGlobals "check_weights" = some (some (.ref f_check_weights)))
    (l_check_weights : K.lookup f_check_weights = some ⟨oc_check_weights, od_check_weights, .func (PySem.W.fnOf "check_weights" "check_weights" (defArgs s_check_weights) (defBody s_check_weights) (defScope s_check_weights) .none kV_check_weights dc_check_weights pm_check_weights an_check_weights cd_check_weights ct_check_weights), sl_check_weights⟩)
    (c_check_weights : PySem.W.codeIn K cd_check_weights "check_weights" = true)
    (k_check_weights : PySem.W.keepIn K (.ref f_check_weights) = true)
    (a_check_all : PySem.W.nsIn K mainGlobals "check_all" = some (some (.ref f_check_all)))
    (l_check_all : K.lookup f_check_all = some ⟨oc_check_all, od_check_all, .func (PySem.W.fnOf "check_all" "check_all" (defArgs s_check_all) (defBody s_check_all) (defScope s_check_all) .none kV_check_all dc_check_all pm_check_all an_check_all cd_check_all ct_check_all), sl_check_all⟩)
    (c_check_all : PySem.W.codeIn K cd_check_all "check_all" = true)
    (k_check_all : PySem.W.keepIn K (.ref f_check_all) = true)
    (a_check_nailed : PySem.W.nsIn K mainGlobals "check_nailed" = some (some (.ref f_check_nailed)))
    (l_check_nailed : K.lookup f_check_nailed = some ⟨oc_check_nailed, od_check_nailed, .func (PySem.W.fnOf "check_nailed" "check_nailed" (defArgs s_check_nailed) (defBody s_check_nailed) (defScope s_check_nailed) .none kV_check_nailed dc_check_nailed pm_check_nailed an_check_nailed cd_check_nailed ct_check_nailed), sl_check_nailed⟩)
    (c_check_nailed : PySem.W.codeIn K cd_check_nailed "check_nailed" = true)
    (k_check_nailed : PySem.W.keepIn K (.ref f_check_nailed) = true)
    (a_Shelf : PySem.W.findIn K (.ref C6) "__init__" = some (some (.ref f_Shelf)))
    (i_Shelf : PySem.W.isFn K (.ref f_Shelf) = true)
    (l_Shelf : K.lookup f_Shelf = some ⟨oc_Shelf, od_Shelf, .func (PySem.W.fnOf "__init__" "Shelf.__init__" (defArgs s_Shelf_init) (defBody s_Shelf_init) (defScope s_Shelf_init) .none kV_Shelf dc_Shelf pm_Shelf an_Shelf cd_Shelf ct_Shelf), sl_Shelf⟩)
    (c_Shelf : PySem.W.codeIn K cd_Shelf "Shelf.__init__" = true)
    (k_Shelf : PySem.W.keepIn K (.ref f_Shelf) = true)
    (a_Shelf_owed : PySem.W.findIn K (.ref C6) "owed" = some (some (.ref f_Shelf_owed)))
    (i_Shelf_owed : PySem.W.isFn K (.ref f_Shelf_owed) = true)
    (l_Shelf_owed : K.lookup f_Shelf_owed = some ⟨oc_Shelf_owed, od_Shelf_owed, .func (PySem.W.fnOf "owed" "Shelf.owed" (defArgs s_Shelf_owed) (defBody s_Shelf_owed) (defScope s_Shelf_owed) .none kV_Shelf_owed dc_Shelf_owed pm_Shelf_owed an_Shelf_owed cd_Shelf_owed ct_Shelf_owed), sl_Shelf_owed⟩)
    (c_Shelf_owed : PySem.W.codeIn K cd_Shelf_owed "Shelf.owed" = true)
    (k_Shelf_owed : PySem.W.keepIn K (.ref f_Shelf_owed) = true)
    (a_Shelf_order : PySem.W.findIn K (.ref C6) "order" = some (some (.ref f_Shelf_order)))
    (i_Shelf_order : PySem.W.isFn K (.ref f_Shelf_order) = true)
    (l_Shelf_order : K.lookup f_Shelf_order = some ⟨oc_Shelf_order, od_Shelf_order, .func (PySem.W.fnOf "order" "Shelf.order" (defArgs s_Shelf_order) (defBody s_Shelf_order) (defScope s_Shelf_order) .none kV_Shelf_order dc_Shelf_order pm_Shelf_order an_Shelf_order cd_Shelf_order ct_Shelf_order), sl_Shelf_order⟩)
    (c_Shelf_order : PySem.W.codeIn K cd_Shelf_order "Shelf.order" = true)
    (k_Shelf_order : PySem.W.keepIn K (.ref f_Shelf_order) = true)
    (a_Shelf_spent : PySem.W.findIn K (.ref C6) "spent" = some (some (.ref f_Shelf_spent)))
    (i_Shelf_spent : PySem.W.isFn K (.ref f_Shelf_spent) = true)
    (l_Shelf_spent : K.lookup f_Shelf_spent = some ⟨oc_Shelf_spent, od_Shelf_spent, .func (PySem.W.fnOf "spent" "Shelf.spent" (defArgs s_Shelf_spent) (defBody s_Shelf_spent) (defScope s_Shelf_spent) .none kV_Shelf_spent dc_Shelf_spent pm_Shelf_spent an_Shelf_spent cd_Shelf_spent ct_Shelf_spent), sl_Shelf_spent⟩)
    (c_Shelf_spent : PySem.W.codeIn K cd_Shelf_spent "Shelf.spent" = true)
    (k_Shelf_spent : PySem.W.keepIn K (.ref f_Shelf_spent) = true)
    (a_Shelf_plan : PySem.W.findIn K (.ref C6) "plan" = some (some (.ref f_Shelf_plan)))
    (i_Shelf_plan : PySem.W.isFn K (.ref f_Shelf_plan) = true)
    (l_Shelf_plan : K.lookup f_Shelf_plan = some ⟨oc_Shelf_plan, od_Shelf_plan, .func (PySem.W.fnOf "plan" "Shelf.plan" (defArgs s_Shelf_plan) (defBody s_Shelf_plan) (defScope s_Shelf_plan) .none kV_Shelf_plan dc_Shelf_plan pm_Shelf_plan an_Shelf_plan cd_Shelf_plan ct_Shelf_plan), sl_Shelf_plan⟩)
    (c_Shelf_plan : PySem.W.codeIn K cd_Shelf_plan "Shelf.plan" = true)
    (k_Shelf_plan : PySem.W.keepIn K (.ref f_Shelf_plan) = true)
    (a_Shelf_helpful : PySem.W.findIn K (.ref C6) "helpful" = some (some (.ref f_Shelf_helpful)))
    (i_Shelf_helpful : PySem.W.isFn K (.ref f_Shelf_helpful) = true)
    (l_Shelf_helpful : K.lookup f_Shelf_helpful = some ⟨oc_Shelf_helpful, od_Shelf_helpful, .func (PySem.W.fnOf "helpful" "Shelf.helpful" (defArgs s_Shelf_helpful) (defBody s_Shelf_helpful) (defScope s_Shelf_helpful) .none kV_Shelf_helpful dc_Shelf_helpful pm_Shelf_helpful an_Shelf_helpful cd_Shelf_helpful ct_Shelf_helpful), sl_Shelf_helpful⟩)
    (c_Shelf_helpful : PySem.W.codeIn K cd_Shelf_helpful "Shelf.helpful" = true)
    (k_Shelf_helpful : PySem.W.keepIn K (.ref f_Shelf_helpful) = true)
    (a_Shelf_check : PySem.W.findIn K (.ref C6) "check" = some (some (.ref f_Shelf_check)))
    (i_Shelf_check : PySem.W.isFn K (.ref f_Shelf_check) = true)
    (l_Shelf_check : K.lookup f_Shelf_check = some ⟨oc_Shelf_check, od_Shelf_check, .func (PySem.W.fnOf "check" "Shelf.check" (defArgs s_Shelf_check) (defBody s_Shelf_check) (defScope s_Shelf_check) .none kV_Shelf_check dc_Shelf_check pm_Shelf_check an_Shelf_check cd_Shelf_check ct_Shelf_check), sl_Shelf_check⟩)
    (c_Shelf_check : PySem.W.codeIn K cd_Shelf_check "Shelf.check" = true)
    (k_Shelf_check : PySem.W.keepIn K (.ref f_Shelf_check) = true)
    (a_Shelf_put : PySem.W.findIn K (.ref C6) "put" = some (some (.ref f_Shelf_put)))
    (i_Shelf_put : PySem.W.isFn K (.ref f_Shelf_put) = true)
    (l_Shelf_put : K.lookup f_Shelf_put = some ⟨oc_Shelf_put, od_Shelf_put, .func (PySem.W.fnOf "put" "Shelf.put" (defArgs s_Shelf_put) (defBody s_Shelf_put) (defScope s_Shelf_put) .none kV_Shelf_put dc_Shelf_put pm_Shelf_put an_Shelf_put cd_Shelf_put ct_Shelf_put), sl_Shelf_put⟩)
    (c_Shelf_put : PySem.W.codeIn K cd_Shelf_put "Shelf.put" = true)
    (k_Shelf_put : PySem.W.keepIn K (.ref f_Shelf_put) = true)
    (a_Shelf_mix : PySem.W.findIn K (.ref C6) "mix" = some (some (.ref f_Shelf_mix)))
    (i_Shelf_mix : PySem.W.isFn K (.ref f_Shelf_mix) = true)
    (l_Shelf_mix : K.lookup f_Shelf_mix = some ⟨oc_Shelf_mix, od_Shelf_mix, .func (PySem.W.fnOf "mix" "Shelf.mix" (defArgs s_Shelf_mix) (defBody s_Shelf_mix) (defScope s_Shelf_mix) .none kV_Shelf_mix dc_Shelf_mix pm_Shelf_mix an_Shelf_mix cd_Shelf_mix ct_Shelf_mix), sl_Shelf_mix⟩)
    (c_Shelf_mix : PySem.W.codeIn K cd_Shelf_mix "Shelf.mix" = true)
    (k_Shelf_mix : PySem.W.keepIn K (.ref f_Shelf_mix) = true)
    (a__law_no_numbers : PySem.W.nsIn K mainGlobals "_law_no_numbers" = some (some (.ref f__law_no_numbers)))
    (l__law_no_numbers : K.lookup f__law_no_numbers = some ⟨oc__law_no_numbers, od__law_no_numbers, .func (PySem.W.fnOf "_law_no_numbers" "_law_no_numbers" (defArgs s__law_no_numbers) (defBody s__law_no_numbers) (defScope s__law_no_numbers) .none kV__law_no_numbers dc__law_no_numbers pm__law_no_numbers an__law_no_numbers cd__law_no_numbers ct__law_no_numbers), sl__law_no_numbers⟩)
    (c__law_no_numbers : PySem.W.codeIn K cd__law_no_numbers "_law_no_numbers" = true)
    (k__law_no_numbers : PySem.W.keepIn K (.ref f__law_no_numbers) = true)
    (a__law_state : PySem.W.nsIn K mainGlobals "_law_state" = some (some (.ref f__law_state)))
    (l__law_state : K.lookup f__law_state = some ⟨oc__law_state, od__law_state, .func (PySem.W.fnOf "_law_state" "_law_state" (defArgs s__law_state) (defBody s__law_state) (defScope s__law_state) .none kV__law_state dc__law_state pm__law_state an__law_state cd__law_state ct__law_state), sl__law_state⟩)
    (c__law_state : PySem.W.codeIn K cd__law_state "_law_state" = true)
    (k__law_state : PySem.W.keepIn K (.ref f__law_state) = true)
    (a_law : PySem.W.nsIn K mainGlobals "law" = some (some (.ref f_law)))
    (l_law : K.lookup f_law = some ⟨oc_law, od_law, .func (PySem.W.fnOf "law" "law" (defArgs s_law) (defBody s_law) (defScope s_law) .none kV_law dc_law pm_law an_law (.ref c_law_) ct_law), sl_law⟩)
    (c_law : PySem.W.codeIn K (.ref c_law_) "law" = true)
    (k_law : PySem.W.keepIn K (.ref f_law) = true)
    (hs_16 : PySem.W.subIn K (.ref C16) (.type "BaseException") = some true)
    (hd_16 : PySem.W.hasDictIn K C16 = true)
    (ty_16 : PySem.W.typeIn K (.ref C16) = some (.type "type"))
    (ic_10 : PySem.W.isClsIn K C10 = true)
    (ty_10 : PySem.W.typeIn K (.ref C10) = some (.type "type"))
    (ic_11 : PySem.W.isClsIn K C11 = true)
    (ty_11 : PySem.W.typeIn K (.ref C11) = some (.type "type"))
    (ic_12 : PySem.W.isClsIn K C12 = true)
    (ty_12 : PySem.W.typeIn K (.ref C12) = some (.type "type"))
    (ic_13 : PySem.W.isClsIn K C13 = true)
    (ty_13 : PySem.W.typeIn K (.ref C13) = some (.type "type"))
    (ic_14 : PySem.W.isClsIn K C14 = true)
    (ic_15 : PySem.W.isClsIn K C15 = true)
    (su_14_16 : PySem.W.subIn K (.ref C14) (.ref C16) = some true)
    (ne_14_10 : (Value.ref C14 == Value.ref C10) = false)
    (su_14_10 : PySem.W.subIn K (.ref C14) (.ref C10) = some false)
    (ne_14_11 : (Value.ref C14 == Value.ref C11) = false)
    (su_14_11 : PySem.W.subIn K (.ref C14) (.ref C11) = some false)
    (ne_14_12 : (Value.ref C14 == Value.ref C12) = false)
    (su_14_12 : PySem.W.subIn K (.ref C14) (.ref C12) = some false)
    (ne_14_13 : (Value.ref C14 == Value.ref C13) = false)
    (su_14_13 : PySem.W.subIn K (.ref C14) (.ref C13) = some false)
    (ne_14_15 : (Value.ref C14 == Value.ref C15) = false)
    (su_14_15 : PySem.W.subIn K (.ref C14) (.ref C15) = some false)
    (su_15_16 : PySem.W.subIn K (.ref C15) (.ref C16) = some true)
    (ne_15_10 : (Value.ref C15 == Value.ref C10) = false)
    (su_15_10 : PySem.W.subIn K (.ref C15) (.ref C10) = some false)
    (ne_15_11 : (Value.ref C15 == Value.ref C11) = false)
    (su_15_11 : PySem.W.subIn K (.ref C15) (.ref C11) = some false)
    (ne_15_12 : (Value.ref C15 == Value.ref C12) = false)
    (su_15_12 : PySem.W.subIn K (.ref C15) (.ref C12) = some false)
    (ne_15_13 : (Value.ref C15 == Value.ref C13) = false)
    (su_15_13 : PySem.W.subIn K (.ref C15) (.ref C13) = some false)
    (ne_15_14 : (Value.ref C15 == Value.ref C14) = false)
    (su_15_14 : PySem.W.subIn K (.ref C15) (.ref C14) = some false)
    (a__law_which : PySem.W.nsIn K mainGlobals "_law_which" = some (some (.ref f__law_which)))
    (l__law_which : K.lookup f__law_which = some ⟨oc__law_which, od__law_which, .func (PySem.W.fnOf "_law_which" "_law_which" (defArgs s__law_which) (defBody s__law_which) (defScope s__law_which) .none kV__law_which dc__law_which pm__law_which an__law_which cd__law_which ct__law_which), sl__law_which⟩)
    (c__law_which : PySem.W.codeIn K cd__law_which "_law_which" = true)
    (k__law_which : PySem.W.keepIn K (.ref f__law_which) = true)
    (a__law_refused : PySem.W.nsIn K mainGlobals "_law_refused" = some (some (.ref f__law_refused)))
    (l__law_refused : K.lookup f__law_refused = some ⟨oc__law_refused, od__law_refused, .func (PySem.W.fnOf "_law_refused" "_law_refused" (defArgs s__law_refused) (defBody s__law_refused) (defScope s__law_refused) .none kV__law_refused dc__law_refused pm__law_refused an__law_refused cd__law_refused ct__law_refused), sl__law_refused⟩)
    (c__law_refused : PySem.W.codeIn K cd__law_refused "_law_refused" = true)
    (k__law_refused : PySem.W.keepIn K (.ref f__law_refused) = true)
    (x_code : K.lookup c_law_ = some ⟨tyc_, odc_, .fields vsc_, slc_⟩)
    (x_tab : vsc_[11]? = some (.ref P_))
    (x_hd : PySem.W.codeHdIn K c_law_ P_ = true)
    (x_no : K.lookup P_ = none)
    (x_emp : h.get? P_ = some { cls := .none, data := .fields #[] })
    : LamX.LawAtS l w K CX0 7 63 "_law_script" mg fa h := by
  have e := hfa.symm.trans (PySem.W.mg_of X G a_law)
  cases e
  let cl : Nat → Addr := fun n => match n with | 6 => C6 | 10 => C10 | 11 => C11 | 12 => C12 | 13 => C13 | 14 => C14 | 15 => C15 | 16 => C16 | _ => 0
  let p : Pm := ⟨K, cl⟩
  have T : Blt mg := ⟨PySem.W.mg_none_of X G z_len, PySem.W.mg_none_of X G z_sum, PySem.W.mg_none_of X G z_max, PySem.W.mg_none_of X G z_min, PySem.W.mg_none_of X G z_all, PySem.W.mg_none_of X G z_any, PySem.W.mg_none_of X G z_sorted, PySem.W.mg_none_of X G z_list, PySem.W.mg_none_of X G z_range, PySem.W.mg_none_of X G z_enumerate, PySem.W.mg_none_of X G z_zip, PySem.W.mg_none_of X G z_isinstance, PySem.W.mg_none_of X G z_int, PySem.W.mg_none_of X G z_bool, PySem.W.mg_none_of X G z_abs, PySem.W.mg_none_of X G z_set, PySem.W.mg_none_of X G z_tuple, PySem.W.mg_none_of X G z_str⟩
  have E_14 : ErrR p mg 14 "BadBook" := ⟨PySem.W.mg_of X G ac_14, ⟨hg_14, hk_14, hs_14, hd_14, ha_14, hn_, tk_, hm_14⟩, xq_14, kp_14, ty_14, PySem.W.exm_ref (C := C16) hs_16 hd_16 ty_16 su_14_16, kt_six (cl := cl) (kit_sub ne_14_10 ic_10 ty_10 su_14_10) (kit_sub ne_14_11 ic_11 ty_11 su_14_11) (kit_sub ne_14_12 ic_12 ty_12 su_14_12) (kit_sub ne_14_13 ic_13 ty_13 su_14_13) kit_self (kit_sub ne_14_15 ic_15 ty_15 su_14_15) (by decide), kit_tyV (by decide +kernel) sv_14⟩
  have E_15 : ErrR p mg 15 "BadPlace" := ⟨PySem.W.mg_of X G ac_15, ⟨hg_15, hk_15, hs_15, hd_15, ha_15, hn_, tk_, hm_15⟩, xq_15, kp_15, ty_15, PySem.W.exm_ref (C := C16) hs_16 hd_16 ty_16 su_15_16, kt_six (cl := cl) (kit_sub ne_15_10 ic_10 ty_10 su_15_10) (kit_sub ne_15_11 ic_11 ty_11 su_15_11) (kit_sub ne_15_12 ic_12 ty_12 su_15_12) (kit_sub ne_15_13 ic_13 ty_13 su_15_13) (kit_sub ne_15_14 ic_14 ty_14 su_15_14) kit_self (by decide), kit_tyV (by decide +kernel) sv_15⟩
  have C_ : Csts p mg := ⟨⟨_, PySem.W.mg_of X G a_MOST_WEIGHT⟩, ⟨⟨pg_6, hd_6, po_6, sa_6⟩, PySem.W.mg_of X G ac_6, ha_6, hn_, tk_, mo_6⟩, ⟨_, PySem.W.mg_of X G a_MOST_BOOKS⟩, na_6_done, na_6_paid, na_6_nailed, na_6_weights, na_6_books, ⟨PySem.W.mg_of X G ac_10⟩, ⟨PySem.W.mg_of X G ac_11⟩, ⟨PySem.W.mg_of X G ac_12⟩, ⟨PySem.W.mg_of X G ac_13⟩, E_14, E_15, ⟨PySem.W.mg_of X G ac_16⟩, PySem.W.mg_none_of X G z_ve⟩
  have D_heights : Df p.K mg "heights" s_heights := ⟨_, _, fun_mk (st := s_heights) l_heights c_heights k_heights, PySem.W.mg_of X G a_heights⟩
  have D_staying : Df p.K mg "staying" s_staying := ⟨_, _, fun_mk (st := s_staying) l_staying c_staying k_staying, PySem.W.mg_of X G a_staying⟩
  have D_stand_right : Df p.K mg "stand_right" s_stand_right := ⟨_, _, fun_mk (st := s_stand_right) l_stand_right c_stand_right k_stand_right, PySem.W.mg_of X G a_stand_right⟩
  have D_free_ones : Df p.K mg "free_ones" s_free_ones := ⟨_, _, fun_mk (st := s_free_ones) l_free_ones c_free_ones k_free_ones, PySem.W.mg_of X G a_free_ones⟩
  have D_clash : Df p.K mg "clash" s_clash := ⟨_, _, fun_mk (st := s_clash) l_clash c_clash k_clash, PySem.W.mg_of X G a_clash⟩
  have D_weight_of : Df p.K mg "weight_of" s_weight_of := ⟨_, _, fun_mk (st := s_weight_of) l_weight_of c_weight_of k_weight_of, PySem.W.mg_of X G a_weight_of⟩
  have D_owed_by : Df p.K mg "owed_by" s_owed_by := ⟨_, _, fun_mk (st := s_owed_by) l_owed_by c_owed_by k_owed_by, PySem.W.mg_of X G a_owed_by⟩
  have D_put_at : Df p.K mg "put_at" s_put_at := ⟨_, _, fun_mk (st := s_put_at) l_put_at c_put_at k_put_at, PySem.W.mg_of X G a_put_at⟩
  have D_place_among : Df p.K mg "place_among" s_place_among := ⟨_, _, fun_mk (st := s_place_among) l_place_among c_place_among k_place_among, PySem.W.mg_of X G a_place_among⟩
  have D_is_whole : Df p.K mg "is_whole" s_is_whole := ⟨_, _, fun_mk (st := s_is_whole) l_is_whole c_is_whole k_is_whole, PySem.W.mg_of X G a_is_whole⟩
  have D_is_between : Df p.K mg "is_between" s_is_between := ⟨_, _, fun_mk (st := s_is_between) l_is_between c_is_between k_is_between, PySem.W.mg_of X G a_is_between⟩
  have D_are_books : Df p.K mg "are_books" s_are_books := ⟨_, _, fun_mk (st := s_are_books) l_are_books c_are_books k_are_books, PySem.W.mg_of X G a_are_books⟩
  have D_check_weights : Df p.K mg "check_weights" s_check_weights := ⟨_, _, fun_mk (st := s_check_weights) l_check_weights c_check_weights k_check_weights, PySem.W.mg_of X G a_check_weights⟩
  have D_check_all : Df p.K mg "check_all" s_check_all := ⟨_, _, fun_mk (st := s_check_all) l_check_all c_check_all k_check_all, PySem.W.mg_of X G a_check_all⟩
  have D_check_nailed : Df p.K mg "check_nailed" s_check_nailed := ⟨_, _, fun_mk (st := s_check_nailed) l_check_nailed c_check_nailed k_check_nailed, PySem.W.mg_of X G a_check_nailed⟩
  have D_Shelf : Di p.K (p.cl 6) "Shelf.__init__" s_Shelf_init := ⟨_, _, fun_mk (st := s_Shelf_init) l_Shelf c_Shelf k_Shelf, mk_6, a_Shelf, i_Shelf, kc_6⟩
  have D_Shelf_owed : Dm p.K (p.cl 6) "owed" "Shelf.owed" s_Shelf_owed := ⟨_, _, fun_mk (st := s_Shelf_owed) l_Shelf_owed c_Shelf_owed k_Shelf_owed, a_Shelf_owed, i_Shelf_owed, k_Shelf_owed⟩
  have D_Shelf_order : Dm p.K (p.cl 6) "order" "Shelf.order" s_Shelf_order := ⟨_, _, fun_mk (st := s_Shelf_order) l_Shelf_order c_Shelf_order k_Shelf_order, a_Shelf_order, i_Shelf_order, k_Shelf_order⟩
  have D_Shelf_spent : Dm p.K (p.cl 6) "spent" "Shelf.spent" s_Shelf_spent := ⟨_, _, fun_mk (st := s_Shelf_spent) l_Shelf_spent c_Shelf_spent k_Shelf_spent, a_Shelf_spent, i_Shelf_spent, k_Shelf_spent⟩
  have D_Shelf_plan : Dm p.K (p.cl 6) "plan" "Shelf.plan" s_Shelf_plan := ⟨_, _, fun_mk (st := s_Shelf_plan) l_Shelf_plan c_Shelf_plan k_Shelf_plan, a_Shelf_plan, i_Shelf_plan, k_Shelf_plan⟩
  have D_Shelf_helpful : Dm p.K (p.cl 6) "helpful" "Shelf.helpful" s_Shelf_helpful := ⟨_, _, fun_mk (st := s_Shelf_helpful) l_Shelf_helpful c_Shelf_helpful k_Shelf_helpful, a_Shelf_helpful, i_Shelf_helpful, k_Shelf_helpful⟩
  have D_Shelf_check : Dm p.K (p.cl 6) "check" "Shelf.check" s_Shelf_check := ⟨_, _, fun_mk (st := s_Shelf_check) l_Shelf_check c_Shelf_check k_Shelf_check, a_Shelf_check, i_Shelf_check, k_Shelf_check⟩
  have D_Shelf_put : Dm p.K (p.cl 6) "put" "Shelf.put" s_Shelf_put := ⟨_, _, fun_mk (st := s_Shelf_put) l_Shelf_put c_Shelf_put k_Shelf_put, a_Shelf_put, i_Shelf_put, k_Shelf_put⟩
  have D_Shelf_mix : Dm p.K (p.cl 6) "mix" "Shelf.mix" s_Shelf_mix := ⟨_, _, fun_mk (st := s_Shelf_mix) l_Shelf_mix c_Shelf_mix k_Shelf_mix, a_Shelf_mix, i_Shelf_mix, k_Shelf_mix⟩
  have D__law_no_numbers : Df p.K mg "_law_no_numbers" s__law_no_numbers := ⟨_, _, fun_mk (st := s__law_no_numbers) l__law_no_numbers c__law_no_numbers k__law_no_numbers, PySem.W.mg_of X G a__law_no_numbers⟩
  have D__law_state : Df p.K mg "_law_state" s__law_state := ⟨_, _, fun_mk (st := s__law_state) l__law_state c__law_state k__law_state, PySem.W.mg_of X G a__law_state⟩
  have D__law_which : Df p.K mg "_law_which" s__law_which := ⟨_, _, fun_mk (st := s__law_which) l__law_which c__law_which k__law_which, PySem.W.mg_of X G a__law_which⟩
  have D__law_refused : Df p.K mg "_law_refused" s__law_refused := ⟨_, _, fun_mk (st := s__law_refused) l__law_refused c__law_refused k__law_refused, PySem.W.mg_of X G a__law_refused⟩
  refine ⟨PySem.W.fnOf "law" "law" (defArgs s_law) (defBody s_law) (defScope s_law) .none kV_law dc_law pm_law an_law (.ref c_law_) ct_law, [(c_law_, P_)], spTab p P_ law, fun q hq => by rw [List.mem_singleton.mp hq]; exact x_emp, fun q hq => by rw [List.mem_singleton.mp hq]; exact x_no, fun q hq => by rw [List.mem_singleton.mp hq]; exact PySem.W.codeHd_of_K X x_hd, fun s v => .of_eq rfl, fun H a ns hl _ hT hS => ⟨a, ns, rfl, hS, hT (c_law_, P_) (List.mem_singleton.mpr rfl), law_true ns hl, fun _ => rfl⟩, fun base _ _ hTB => ?_⟩
  have r_heights := cal_heights (P := l.prog) (w := w) (p := p) (mg := mg) (base := base) T C_  D_heights
  have r_staying := cal_staying (P := l.prog) (w := w) (p := p) (mg := mg) (base := base) T C_ r_heights D_staying
  have r_stand_right := cal_stand_right (P := l.prog) (w := w) (p := p) (mg := mg) (base := base) T C_  D_stand_right
  have r_free_ones := cal_free_ones (P := l.prog) (w := w) (p := p) (mg := mg) (base := base) T C_ r_stand_right D_free_ones
  have r_clash := cal_clash (P := l.prog) (w := w) (p := p) (mg := mg) (base := base) T C_ r_stand_right D_clash
  have r_weight_of := cal_weight_of (P := l.prog) (w := w) (p := p) (mg := mg) (base := base) T C_  D_weight_of
  have r_owed_by := cal_owed_by (P := l.prog) (w := w) (p := p) (mg := mg) (base := base) T C_ r_clash r_free_ones r_staying r_weight_of D_owed_by
  have r_put_at := cal_put_at (P := l.prog) (w := w) (p := p) (mg := mg) (base := base) T C_  D_put_at
  have r_place_among := cal_place_among (P := l.prog) (w := w) (p := p) (mg := mg) (base := base) T C_  D_place_among
  have r_is_whole := cal_is_whole (P := l.prog) (w := w) (p := p) (mg := mg) (base := base) T C_  D_is_whole
  have r_is_between := cal_is_between (P := l.prog) (w := w) (p := p) (mg := mg) (base := base) T C_ r_is_whole D_is_between
  have r_are_books := cal_are_books (P := l.prog) (w := w) (p := p) (mg := mg) (base := base) T C_ r_is_whole D_are_books
  have r_check_weights := cal_check_weights (P := l.prog) (w := w) (p := p) (mg := mg) (base := base) T C_ r_is_between D_check_weights
  have r_check_all := cal_check_all (P := l.prog) (w := w) (p := p) (mg := mg) (base := base) T C_ r_are_books r_check_weights D_check_all
  have r_check_nailed := cal_check_nailed (P := l.prog) (w := w) (p := p) (mg := mg) (base := base) T C_ r_is_between D_check_nailed
  have r_Shelf := cal_Shelf (P := l.prog) (w := w) (p := p) (mg := mg) (base := base) T C_ r_check_all r_check_nailed D_Shelf
  have r_m_owed_0 := mts_owed_0 (P := l.prog) (w := w) (p := p) (mg := mg) (base := base) T C_ r_owed_by D_Shelf_owed
  have r_m_order_0 := mts_order_0 (P := l.prog) (w := w) (p := p) (mg := mg) (base := base) T C_  D_Shelf_order
  have r_m_spent_0 := mts_spent_0 (P := l.prog) (w := w) (p := p) (mg := mg) (base := base) T C_  D_Shelf_spent
  have r_m_plan_0 := mts_plan_0 (P := l.prog) (w := w) (p := p) (mg := mg) (base := base) T C_  D_Shelf_plan
  have r_m_helpful_0 := mts_helpful_0 (P := l.prog) (w := w) (p := p) (mg := mg) (base := base) T C_ r_clash r_free_ones r_place_among r_staying D_Shelf_helpful
  have r_m_check_1 := mts_check_1 (P := l.prog) (w := w) (p := p) (mg := mg) (base := base) T C_ r_is_between D_Shelf_check
  have r_m_put_2 := mts_put_2 (P := l.prog) (w := w) (p := p) (mg := mg) (base := base) T C_ r_is_between r_m_check_1 r_m_owed_0 r_put_at D_Shelf_put
  have r_m_mix_2 := mts_mix_2 (P := l.prog) (w := w) (p := p) (mg := mg) (base := base) T C_ r_m_check_1 r_m_owed_0 D_Shelf_mix
  have r__law_no_numbers := cal__law_no_numbers (P := l.prog) (w := w) (p := p) (mg := mg) (base := base) T C_  D__law_no_numbers
  have r__law_state := cal__law_state (P := l.prog) (w := w) (p := p) (mg := mg) (base := base) T C_ r_m_helpful_0 r_m_order_0 r_m_owed_0 r_m_plan_0 r_m_spent_0 D__law_state
  have r2_w := FwD.cal_is_whole (P := l.prog) (w := w) (p := p) (mg := mg) (base := base) T C_ D_is_whole
  have r2_b := FwD.cal_is_between (P := l.prog) (w := w) (p := p) (mg := mg) (base := base) T C_ r2_w D_is_between
  have r2_check := met_check_x (P := l.prog) (w := w) (p := p) (mg := mg) (base := base) T C_ r2_b D_Shelf_check
  have r2_put := met_put_x (P := l.prog) (w := w) (p := p) (mg := mg) (base := base) T C_ r2_b r2_check D_Shelf_put
  have r2_mix := met_mix_x (P := l.prog) (w := w) (p := p) (mg := mg) (base := base) T C_ r2_b r2_check D_Shelf_mix
  have r2_ref := ask_refused (P := l.prog) (w := w) (p := p) (mg := mg) (base := base) T C_ D__law_which D__law_refused
  exact ok_law (P := l.prog) (w := w) (p := p) (mg := mg) (base := base) T C_ r_Shelf r__law_no_numbers r__law_state r_m_mix_2 r_m_order_0 r_m_plan_0 r_m_put_2 r_m_spent_0 r2_ref r2_put r2_mix (hTB (c_law_, P_) (List.mem_singleton.mpr rfl)) l_law c_law
theorem walk {l : PySem.W.OpenLaw} {q : Program} {loose : List Str} {XP : (Str → Option Value) → Heap → Prop} {YP : World → Heap → Prop} {d : DefRec} {K : Params → PySem.W.Frag} (hn : l.most = some 63) (hdf : d.params.defaults = [])
    (hY : ∀ (w : World) (h : Heap), YP w h → (K w.params).In h)
    (F : ∀ (w : World) (mg : Str → Option Value) (fa : Addr) (h : Heap), YP w h → (K w.params).In h → h.Ns mainGlobals mg → mg d.name = some (.ref fa) → LamX.LawAtS l w (K w.params) CX0 7 63 "_law_script" mg fa h) :
    PySem.W.WalkO q loose XP YP l.row.toRowW d [] (fun f vs => PySem.call f vs) :=
  LamX.walk_ofTs (n := 63) (k := 7) (x := "_law_script") (CX := fun _ => CX0) hn (by decide) hdf ⟨rfl, by decide, by decide⟩ hY F (fun _ _ _ _ _ z => z)
end Fw
open PySem PySem.W PyProof.Rows in
set_option maxRecDepth 100000 in
set_option maxHeartbeats 0 in
theorem PySem.Challenge.cw_fewtakings_k12_refused_shelves_holds : PySem.Challenge.rw_fewtakings_k12_refused_shelves.Holds := by
  w_on; o_law; k_head; (case hw => w_witness2)
  k_fill
  refine Fw.walk (l := PySem.Challenge.rw_fewtakings_k12_refused_shelves) rfl rfl (fun w h Y => PySem.W.km_in_of Y) ?F
  case F =>
    intro w mg fa h Y KX G hmg
    refine' Fw.all_mk KX G hmg ?z_len ?z_sum ?z_max ?z_min ?z_all ?z_any ?z_sorted ?z_list ?z_range ?z_enumerate ?z_zip ?z_isinstance ?z_int ?z_bool ?z_abs ?z_set ?z_tuple ?z_str ?ac_6 ?pg_6 ?hd_6 ?po_6 ?sa_6 ?ha_6 ?mo_6 ?mk_6 ?kc_6 ?hn_ ?tk_ ?a_MOST_WEIGHT ?a_MOST_BOOKS ?na_6_done ?na_6_paid ?na_6_nailed ?na_6_weights ?na_6_books ?ac_10 ?ac_11 ?ac_12 ?ac_13 ?ac_14 ?hg_14 ?hk_14 ?hs_14 ?hd_14 ?ha_14 ?hm_14 ?xq_14 ?kp_14 ?ty_14 ?sv_14 ?ac_15 ?hg_15 ?hk_15 ?hs_15 ?hd_15 ?ha_15 ?hm_15 ?xq_15 ?kp_15 ?ty_15 ?sv_15 ?ac_16 ?z_ve ?a_heights ?l_heights ?c_heights ?k_heights ?a_staying ?l_staying ?c_staying ?k_staying ?a_stand_right ?l_stand_right ?c_stand_right ?k_stand_right ?a_free_ones ?l_free_ones ?c_free_ones ?k_free_ones ?a_clash ?l_clash ?c_clash ?k_clash ?a_weight_of ?l_weight_of ?c_weight_of ?k_weight_of ?a_owed_by ?l_owed_by ?c_owed_by ?k_owed_by ?a_put_at ?l_put_at ?c_put_at ?k_put_at ?a_place_among ?l_place_among ?c_place_among ?k_place_among ?a_is_whole ?l_is_whole ?c_is_whole ?k_is_whole ?a_is_between ?l_is_between ?c_is_between ?k_is_between ?a_are_books ?l_are_books ?c_are_books ?k_are_books ?a_check_weights ?l_check_weights ?c_check_weights ?k_check_weights ?a_check_all ?l_check_all ?c_check_all ?k_check_all ?a_check_nailed ?l_check_nailed ?c_check_nailed ?k_check_nailed ?a_Shelf ?i_Shelf ?l_Shelf ?c_Shelf ?k_Shelf ?a_Shelf_owed ?i_Shelf_owed ?l_Shelf_owed ?c_Shelf_owed ?k_Shelf_owed ?a_Shelf_order ?i_Shelf_order ?l_Shelf_order ?c_Shelf_order ?k_Shelf_order ?a_Shelf_spent ?i_Shelf_spent ?l_Shelf_spent ?c_Shelf_spent ?k_Shelf_spent ?a_Shelf_plan ?i_Shelf_plan ?l_Shelf_plan ?c_Shelf_plan ?k_Shelf_plan ?a_Shelf_helpful ?i_Shelf_helpful ?l_Shelf_helpful ?c_Shelf_helpful ?k_Shelf_helpful ?a_Shelf_check ?i_Shelf_check ?l_Shelf_check ?c_Shelf_check ?k_Shelf_check ?a_Shelf_put ?i_Shelf_put ?l_Shelf_put ?c_Shelf_put ?k_Shelf_put ?a_Shelf_mix ?i_Shelf_mix ?l_Shelf_mix ?c_Shelf_mix ?k_Shelf_mix ?a__law_no_numbers ?l__law_no_numbers ?c__law_no_numbers ?k__law_no_numbers ?a__law_state ?l__law_state ?c__law_state ?k__law_state ?a_law ?l_law ?c_law ?k_law ?hs_16 ?hd_16 ?ty_16 ?ic_10 ?ty_10 ?ic_11 ?ty_11 ?ic_12 ?ty_12 ?ic_13 ?ty_13 ?ic_14 ?ic_15 ?su_14_16 ?ne_14_10 ?su_14_10 ?ne_14_11 ?su_14_11 ?ne_14_12 ?su_14_12 ?ne_14_13 ?su_14_13 ?ne_14_15 ?su_14_15 ?su_15_16 ?ne_15_10 ?su_15_10 ?ne_15_11 ?su_15_11 ?ne_15_12 ?su_15_12 ?ne_15_13 ?su_15_13 ?ne_15_14 ?su_15_14 ?a__law_which ?l__law_which ?c__law_which ?k__law_which ?a__law_refused ?l__law_refused ?c__law_refused ?k__law_refused ?x_code ?x_tab ?x_hd ?x_no ?x_emp
    (case z_len => k_is)
    (case z_sum => k_is)
    (case z_max => k_is)
    (case z_min => k_is)
    (case z_all => k_is)
    (case z_any => k_is)
    (case z_sorted => k_is)
    (case z_list => k_is)
    (case z_range => k_is)
    (case z_enumerate => k_is)
    (case z_zip => k_is)
    (case z_isinstance => k_is)
    (case z_int => k_is)
    (case z_bool => k_is)
    (case z_abs => k_is)
    (case z_set => k_is)
    (case z_tuple => k_is)
    (case z_str => k_is)
    (case ac_6 => k_is)
    (case pg_6 => k_is)
    (case hd_6 => k_is)
    (case po_6 => k_is)
    (case sa_6 => k_is)
    (case ha_6 => k_is)
    (case mo_6 => k_is)
    (case mk_6 => k_is)
    (case kc_6 => k_is)
    (case hn_ => k_is)
    (case tk_ => k_is)
    (case a_MOST_WEIGHT => k_is)
    (case a_MOST_BOOKS => k_is)
    (case na_6_done => k_is)
    (case na_6_paid => k_is)
    (case na_6_nailed => k_is)
    (case na_6_weights => k_is)
    (case na_6_books => k_is)
    (case ac_10 => k_is)
    (case ac_11 => k_is)
    (case ac_12 => k_is)
    (case ac_13 => k_is)
    (case ac_14 => k_is)
    (case hg_14 => k_is)
    (case hk_14 => k_is)
    (case hs_14 => k_is)
    (case hd_14 => k_is)
    (case ha_14 => k_is)
    (case hm_14 => k_is)
    (case xq_14 => first | kernel_rfl | decide +kernel)
    (case kp_14 => k_is)
    (case ty_14 => k_is)
    (case sv_14 => k_is)
    (case ac_15 => k_is)
    (case hg_15 => k_is)
    (case hk_15 => k_is)
    (case hs_15 => k_is)
    (case hd_15 => k_is)
    (case ha_15 => k_is)
    (case hm_15 => k_is)
    (case xq_15 => first | kernel_rfl | decide +kernel)
    (case kp_15 => k_is)
    (case ty_15 => k_is)
    (case sv_15 => k_is)
    (case ac_16 => k_is)
    (case z_ve => k_is)
    (case a_heights => k_is)
    (case l_heights => k_is)
    (case c_heights => k_is)
    (case k_heights => k_is)
    (case a_staying => k_is)
    (case l_staying => k_is)
    (case c_staying => k_is)
    (case k_staying => k_is)
    (case a_stand_right => k_is)
    (case l_stand_right => k_is)
    (case c_stand_right => k_is)
    (case k_stand_right => k_is)
    (case a_free_ones => k_is)
    (case l_free_ones => k_is)
    (case c_free_ones => k_is)
    (case k_free_ones => k_is)
    (case a_clash => k_is)
    (case l_clash => k_is)
    (case c_clash => k_is)
    (case k_clash => k_is)
    (case a_weight_of => k_is)
    (case l_weight_of => k_is)
    (case c_weight_of => k_is)
    (case k_weight_of => k_is)
    (case a_owed_by => k_is)
    (case l_owed_by => k_is)
    (case c_owed_by => k_is)
    (case k_owed_by => k_is)
    (case a_put_at => k_is)
    (case l_put_at => k_is)
    (case c_put_at => k_is)
    (case k_put_at => k_is)
    (case a_place_among => k_is)
    (case l_place_among => k_is)
    (case c_place_among => k_is)
    (case k_place_among => k_is)
    (case a_is_whole => k_is)
    (case l_is_whole => k_is)
    (case c_is_whole => k_is)
    (case k_is_whole => k_is)
    (case a_is_between => k_is)
    (case l_is_between => k_is)
    (case c_is_between => k_is)
    (case k_is_between => k_is)
    (case a_are_books => k_is)
    (case l_are_books => k_is)
    (case c_are_books => k_is)
    (case k_are_books => k_is)
    (case a_check_weights => k_is)
    (case l_check_weights => k_is)
    (case c_check_weights => k_is)
    (case k_check_weights => k_is)
    (case a_check_all => k_is)
    (case l_check_all => k_is)
    (case c_check_all => k_is)
    (case k_check_all => k_is)
    (case a_check_nailed => k_is)
    (case l_check_nailed => k_is)
    (case c_check_nailed => k_is)
    (case k_check_nailed => k_is)
    (case a_Shelf => k_is)
    (case i_Shelf => k_is)
    (case l_Shelf => k_is)
    (case c_Shelf => k_is)
    (case k_Shelf => k_is)
    (case a_Shelf_owed => k_is)
    (case i_Shelf_owed => k_is)
    (case l_Shelf_owed => k_is)
    (case c_Shelf_owed => k_is)
    (case k_Shelf_owed => k_is)
    (case a_Shelf_order => k_is)
    (case i_Shelf_order => k_is)
    (case l_Shelf_order => k_is)
    (case c_Shelf_order => k_is)
    (case k_Shelf_order => k_is)
    (case a_Shelf_spent => k_is)
    (case i_Shelf_spent => k_is)
    (case l_Shelf_spent => k_is)
    (case c_Shelf_spent => k_is)
    (case k_Shelf_spent => k_is)
    (case a_Shelf_plan => k_is)
    (case i_Shelf_plan => k_is)
    (case l_Shelf_plan => k_is)
    (case c_Shelf_plan => k_is)
    (case k_Shelf_plan => k_is)
    (case a_Shelf_helpful => k_is)
    (case i_Shelf_helpful => k_is)
    (case l_Shelf_helpful => k_is)
    (case c_Shelf_helpful => k_is)
    (case k_Shelf_helpful => k_is)
    (case a_Shelf_check => k_is)
    (case i_Shelf_check => k_is)
    (case l_Shelf_check => k_is)
    (case c_Shelf_check => k_is)
    (case k_Shelf_check => k_is)
    (case a_Shelf_put => k_is)
    (case i_Shelf_put => k_is)
    (case l_Shelf_put => k_is)
    (case c_Shelf_put => k_is)
    (case k_Shelf_put => k_is)
    (case a_Shelf_mix => k_is)
    (case i_Shelf_mix => k_is)
    (case l_Shelf_mix => k_is)
    (case c_Shelf_mix => k_is)
    (case k_Shelf_mix => k_is)
    (case a__law_no_numbers => k_is)
    (case l__law_no_numbers => k_is)
    (case c__law_no_numbers => k_is)
    (case k__law_no_numbers => k_is)
    (case a__law_state => k_is)
    (case l__law_state => k_is)
    (case c__law_state => k_is)
    (case k__law_state => k_is)
    (case a_law => k_is)
    (case l_law => k_is)
    (case c_law => k_is)
    (case k_law => k_is)
    (case hs_16 => k_is)
    (case hd_16 => k_is)
    (case ty_16 => k_is)
    (case ic_10 => k_is)
    (case ty_10 => k_is)
    (case ic_11 => k_is)
    (case ty_11 => k_is)
    (case ic_12 => k_is)
    (case ty_12 => k_is)
    (case ic_13 => k_is)
    (case ty_13 => k_is)
    (case ic_14 => k_is)
    (case ic_15 => k_is)
    (case su_14_16 => first | k_is | rfl | decide)
    (case ne_14_10 => first | k_is | rfl | decide)
    (case su_14_10 => first | k_is | rfl | decide)
    (case ne_14_11 => first | k_is | rfl | decide)
    (case su_14_11 => first | k_is | rfl | decide)
    (case ne_14_12 => first | k_is | rfl | decide)
    (case su_14_12 => first | k_is | rfl | decide)
    (case ne_14_13 => first | k_is | rfl | decide)
    (case su_14_13 => first | k_is | rfl | decide)
    (case ne_14_15 => first | k_is | rfl | decide)
    (case su_14_15 => first | k_is | rfl | decide)
    (case su_15_16 => first | k_is | rfl | decide)
    (case ne_15_10 => first | k_is | rfl | decide)
    (case su_15_10 => first | k_is | rfl | decide)
    (case ne_15_11 => first | k_is | rfl | decide)
    (case su_15_11 => first | k_is | rfl | decide)
    (case ne_15_12 => first | k_is | rfl | decide)
    (case su_15_12 => first | k_is | rfl | decide)
    (case ne_15_13 => first | k_is | rfl | decide)
    (case su_15_13 => first | k_is | rfl | decide)
    (case ne_15_14 => first | k_is | rfl | decide)
    (case su_15_14 => first | k_is | rfl | decide)
    (case a__law_which => k_is)
    (case l__law_which => k_is)
    (case c__law_which => k_is)
    (case k__law_which => k_is)
    (case a__law_refused => k_is)
    (case l__law_refused => k_is)
    (case c__law_refused => k_is)
    (case k__law_refused => k_is)
    (case x_code => k_is)
    (case x_tab => first | rfl | kernel_rfl)
    (case x_hd => first | kernel_rfl | decide +kernel)
    (case x_no => first | kernel_rfl | decide +kernel)
    (case x_emp => exact PySem.W.km_tabs_of Y _ (by first | k_mem | decide | simp))

