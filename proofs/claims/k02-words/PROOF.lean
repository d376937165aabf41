import PyProof.Rows.All
import Wide.All
import OpenK.AllK
import Wide.FinOn
import HandS.Base
import HandS.Call
import HandS.List
import HandS.Comp
import HandS.Ends
import HandS.Dict
import HandS.Iter
import HandS.Text
import HandS.Words
import HandS.Style
import HandS.Star
import HandS.IsInst
import PyProof.ReprRoads
import PyProof.Rows.SetFrom
import PyProof.ListStr
import PySem.Challenge.RW_onegoing_k02_words
set_option Elab.async false
set_option linter.all false
set_option maxRecDepth 100000
set_option maxHeartbeats 4000000
/-! L3Base: Python data as trees (D), how a tree lies in the tracked heap (RelD), what a def's frame knows (Cor), and readings that run a plain Lean function (T3, T3b, TS3). -/
namespace L3
open PySem PySem.Spec PyProof.Rows L2

abbrev Sl := List (Option V)
/-! ### data -/
inductive D where
  | non | bl (b : Bool) | int (i : Int) | str (s : Str)
  | tup (ds : List D) | lst (ds : List D) | dic (kvs : List (D × D)) | obj (c : Nat) (ds : List D) | deck | glb (n : Nat)

def keyD : Key → D
  | .inl i => .int i
  | .inr s => .str s

/-- the law's deck of numbers -/
structure Wd where
  cells : List Int
  blend : Int
  draws : Int

/-- what stays the same through all calls: the written part, where the deck and its cells stand, where the classes stand -/
structure Ms where
  K : PySem.W.Frag
  dk : Option (Addr × Addr)
  cl : Nat → Addr
  nm : Nat → List Str

abbrev FS := Addr → Prop
def isDk (M : Ms) (b : Addr) : Prop := ∃ p, M.dk = some p ∧ (b = p.1 ∨ b = p.2)
abbrev noH : Hp := fun _ => none

def SqT3 (K : PySem.W.Frag) (F : FS) (H : Hp) (a : Addr) (xs : List V) : Prop := (F a ∧ H a = some (.tup xs)) ∨ SqT K noH a xs
def SqL3 (K : PySem.W.Frag) (F : FS) (H : Hp) (a : Addr) (xs : List V) : Prop := F a ∧ H a = some (.lst xs)

mutual
def RelD (M : Ms) (F : FS) (H : Hp) : D → V → Prop
  | .non, v => v = .non
  | .bl b, v => v = .bl b
  | .int i, v => v = .int i
  | .str s, v => v = .str s
  | .tup ds, v => ∃ a xs, v = .ref a ∧ SqT3 M.K F H a xs ∧ RelDs M F H ds xs
  | .lst ds, v => ∃ a xs, v = .ref a ∧ SqL3 M.K F H a xs ∧ RelDs M F H ds xs
  | .dic kvs, v => ∃ a, v = .ref a ∧ F a ∧ ((∃ ps, H a = some (.dK ps) ∧ RelKs M F H kvs ps) ∨ ∃ ps, H a = some (.dT ps) ∧ RelTs M F H kvs ps)
  | .obj c ds, v => ∃ a dx xs, v = .ref a ∧ F a ∧ H a = some (.ins (M.cl c) dx ((M.nm c).zip xs)) ∧ (M.nm c).length = xs.length ∧ RelDs M F H ds xs
  | .deck, v => ∃ p, M.dk = some p ∧ v = .ref p.1
  | .glb n, v => v = .ref (M.cl n)
def RelDs (M : Ms) (F : FS) (H : Hp) : List D → List V → Prop
  | [], vs => vs = []
  | d :: ds, vs => ∃ x xs, vs = x :: xs ∧ RelD M F H d x ∧ RelDs M F H ds xs
def RelKs (M : Ms) (F : FS) (H : Hp) : List (D × D) → List (Key × V) → Prop
  | [], ps => ps = []
  | (k, d) :: r, ps => ∃ q x t, ps = (q, x) :: t ∧ k = keyD q ∧ RelD M F H d x ∧ RelKs M F H r t
def RelTs (M : Ms) (F : FS) (H : Hp) : List (D × D) → List (List Key × V) → Prop
  | [], ps => ps = []
  | (k, d) :: r, ps => ∃ q x t, ps = (q, x) :: t ∧ k = .tup (q.map keyD) ∧ RelD M F H d x ∧ RelTs M F H r t
end

def Sub (F F' : FS) : Prop := ∀ b, F b → F' b
def Ext (F : FS) (H H' : Hp) : Prop := ∀ b o, F b → H b = some o → H' b = some o

section
variable {M : Ms} {F F' : FS} {H H' : Hp}
theorem SqT3.mono {K a xs} (hs : Sub F F') (he : Ext F H H') (h : SqT3 K F H a xs) : SqT3 K F' H' a xs := by
  rcases h with ⟨f, h⟩ | h
  · exact .inl ⟨hs _ f, he _ _ f h⟩
  · exact .inr h
theorem SqL3.mono {K a xs} (hs : Sub F F') (he : Ext F H H') (h : SqL3 K F H a xs) : SqL3 K F' H' a xs := ⟨hs _ h.1, he _ _ h.1 h.2⟩
theorem SqT3.sq {K a xs} (h : SqT3 K F H a xs) : SqT K H a xs := by
  rcases h with ⟨f, h⟩ | (h | h)
  · exact .of h
  · rcases h with h | ⟨o, h⟩
    · cases h
    · cases h
  · exact .inr h
theorem SqL3.sq {K a xs} (h : SqL3 K F H a xs) : SqL K H a xs := .of h.2
mutual
theorem RelD.mono (hs : Sub F F') (he : Ext F H H') : ∀ (d : D) (v : V), RelD M F H d v → RelD M F' H' d v
  | .non, _, h => h
  | .bl _, _, h => h
  | .int _, _, h => h
  | .str _, _, h => h
  | .tup ds, _, ⟨a, xs, e, q, r⟩ => ⟨a, xs, e, q.mono hs he, RelDs.mono hs he ds xs r⟩
  | .lst ds, _, ⟨a, xs, e, q, r⟩ => ⟨a, xs, e, q.mono hs he, RelDs.mono hs he ds xs r⟩
  | .dic kvs, _, ⟨a, e, f, q⟩ => ⟨a, e, hs _ f, q.elim (fun ⟨ps, q, r⟩ => .inl ⟨ps, he _ _ f q, RelKs.mono hs he kvs ps r⟩) fun ⟨ps, q, r⟩ => .inr ⟨ps, he _ _ f q, RelTs.mono hs he kvs ps r⟩⟩
  | .obj c ds, _, ⟨a, dx, xs, e, f, q, l, r⟩ => ⟨a, dx, xs, e, hs _ f, he _ _ f q, l, RelDs.mono hs he ds xs r⟩
  | .deck, _, h => h
  | .glb _, _, h => h
theorem RelDs.mono (hs : Sub F F') (he : Ext F H H') : ∀ (ds : List D) (vs : List V), RelDs M F H ds vs → RelDs M F' H' ds vs
  | [], _, h => h
  | d :: ds, _, ⟨x, xs, e, r, t⟩ => ⟨x, xs, e, RelD.mono hs he d x r, RelDs.mono hs he ds xs t⟩
theorem RelKs.mono (hs : Sub F F') (he : Ext F H H') : ∀ (kvs : List (D × D)) (ps : List (Key × V)), RelKs M F H kvs ps → RelKs M F' H' kvs ps
  | [], _, h => h
  | (k, d) :: r, _, ⟨q, x, t, e, ek, rd, rt⟩ => ⟨q, x, t, e, ek, RelD.mono hs he d x rd, RelKs.mono hs he r t rt⟩
theorem RelTs.mono (hs : Sub F F') (he : Ext F H H') : ∀ (kvs : List (D × D)) (ps : List (List Key × V)), RelTs M F H kvs ps → RelTs M F' H' kvs ps
  | [], _, h => h
  | (k, d) :: r, _, ⟨q, x, t, e, ek, rd, rt⟩ => ⟨q, x, t, e, ek, RelD.mono hs he d x rd, RelTs.mono hs he r t rt⟩
end
theorem RelDs.length : ∀ {ds : List D} {vs : List V}, RelDs M F H ds vs → ds.length = vs.length
  | [], _, h => by
    have e : _ = [] := h
    subst e
    rfl
  | d :: ds, _, h => by
    obtain ⟨x, xs, rfl, r, t⟩ := h
    show ds.length + 1 = xs.length + 1
    rw [RelDs.length t]
theorem RelDs.get : ∀ {ds : List D} {vs : List V} {i : Nat} {d : D}, RelDs M F H ds vs → ds[i]? = some d → ∃ v, vs[i]? = some v ∧ RelD M F H d v
  | [], _, i, d, h, e => by simp at e
  | d :: ds, _, 0, d', h, e => by
    obtain ⟨x, xs, rfl, r, t⟩ := h
    simp at e
    subst e
    exact ⟨x, rfl, r⟩
  | d :: ds, _, i + 1, d', h, e => by
    obtain ⟨x, xs, rfl, r, t⟩ := h
    obtain ⟨v, q1, q2⟩ := RelDs.get (i := i) t (by simpa using e)
    exact ⟨v, by simpa using q1, q2⟩
theorem RelDs.getV : ∀ {ds : List D} {vs : List V} {i : Nat} {v : V}, RelDs M F H ds vs → vs[i]? = some v → ∃ d, ds[i]? = some d ∧ RelD M F H d v
  | [], _, i, d, h, e => by
    have z : _ = [] := h
    subst z
    simp at e
  | d :: ds, _, 0, d', h, e => by
    obtain ⟨x, xs, rfl, r, t⟩ := h
    simp at e
    subst e
    exact ⟨d, rfl, r⟩
  | d :: ds, _, i + 1, d', h, e => by
    obtain ⟨x, xs, rfl, r, t⟩ := h
    obtain ⟨v, q1, q2⟩ := RelDs.getV (i := i) t (by simpa using e)
    exact ⟨v, by simpa using q1, q2⟩
theorem RelDs.append : ∀ {ds es : List D} {vs us : List V}, RelDs M F H ds vs → RelDs M F H es us → RelDs M F H (ds ++ es) (vs ++ us)
  | [], _, _, _, h, k => by
    have z : _ = [] := h
    subst z
    exact k
  | d :: ds, _, _, _, h, k => by
    obtain ⟨x, xs, rfl, r, t⟩ := h
    exact ⟨x, _, rfl, r, RelDs.append t k⟩
theorem RelDs.one {d : D} {v : V} (h : RelD M F H d v) : RelDs M F H [d] [v] := ⟨v, [], rfl, h, rfl⟩
theorem RelDs.take : ∀ {ds : List D} {vs : List V} (n : Nat), RelDs M F H ds vs → RelDs M F H (ds.take n) (vs.take n)
  | [], _, n, h => by
    have z : _ = [] := h
    subst z
    simp only [List.take_nil]
    rfl
  | d :: ds, _, 0, h => rfl
  | d :: ds, _, n + 1, h => by
    obtain ⟨x, xs, rfl, r, t⟩ := h
    exact ⟨x, _, rfl, r, RelDs.take n t⟩
theorem RelDs.drop : ∀ {ds : List D} {vs : List V} (n : Nat), RelDs M F H ds vs → RelDs M F H (ds.drop n) (vs.drop n)
  | [], _, n, h => by
    have z : _ = [] := h
    subst z
    simp only [List.drop_nil]
    rfl
  | d :: ds, _, 0, h => h
  | d :: ds, _, n + 1, h => by
    obtain ⟨x, xs, rfl, r, t⟩ := h
    exact RelDs.drop n t
theorem RelDs.reverse : ∀ {ds : List D} {vs : List V}, RelDs M F H ds vs → RelDs M F H ds.reverse vs.reverse
  | [], _, h => by
    have z : _ = [] := h
    subst z
    rfl
  | d :: ds, _, h => by
    obtain ⟨x, xs, rfl, r, t⟩ := h
    rw [List.reverse_cons, List.reverse_cons]
    exact RelDs.append (RelDs.reverse t) (RelDs.one r)
theorem RelDs.ints : ∀ {ns : List Int}, RelDs M F H (ns.map D.int) (ns.map V.int)
  | [] => rfl
  | n :: ns => ⟨_, _, rfl, rfl, RelDs.ints⟩
theorem RelDs.strs : ∀ {ns : List Str}, RelDs M F H (ns.map D.str) (ns.map V.str)
  | [] => rfl
  | n :: ns => ⟨_, _, rfl, rfl, RelDs.strs⟩
theorem RelDs.strs_eq : ∀ {ns : List Str} {vs : List V}, RelDs M F H (ns.map D.str) vs → vs = ns.map V.str
  | [], _, h => h
  | n :: ns, _, h => by
    obtain ⟨x, xs, rfl, r, t⟩ := h
    have r : x = .str n := r
    subst r
    rw [RelDs.strs_eq t]
    rfl
theorem RelDs.ints_eq : ∀ {ns : List Int} {vs : List V}, RelDs M F H (ns.map D.int) vs → vs = ns.map V.int
  | [], _, h => h
  | n :: ns, _, h => by
    obtain ⟨x, xs, rfl, r, t⟩ := h
    have r : x = .int n := r
    subst r
    rw [RelDs.ints_eq t]
    rfl
end

/-! ### the deck; how the heap grows -/
def deckO (c : Addr) (w : Wd) : HO := .dK [((.inr "cells" : Key), .ref c), ((.inr "blend" : Key), .int w.blend), ((.inr "draws" : Key), .int w.draws)]
def WRel (M : Ms) (F : FS) (w : Wd) (H : Hp) : Prop :=
  ∀ p, M.dk = some p → H p.1 = some (deckO p.2 w) ∧ H p.2 = some (.lst (w.cells.map V.int)) ∧ ¬ F p.1 ∧ ¬ F p.2 ∧ p.1 ≠ p.2
theorem WRel.not {M : Ms} {F : FS} {w : Wd} {H : Hp} (h : WRel M F w H) {b : Addr} (f : F b) : ¬ isDk M b := by
  rintro ⟨p, e, rfl | rfl⟩
  · exact (h p e).2.2.1 f
  · exact (h p e).2.2.2.1 f
theorem WRel.there {M : Ms} {F : FS} {w : Wd} {H : Hp} (h : WRel M F w H) {b : Addr} (d : isDk M b) : H b ≠ none := by
  obtain ⟨p, e, rfl | rfl⟩ := d
  · rw [(h p e).1]; exact fun z => by cases z
  · rw [(h p e).2.1]; exact fun z => by cases z
structure Grow (M : Ms) (F : FS) (H : Hp) (F' : FS) (w' : Wd) (H' : Hp) : Prop where
  sub : Sub F F'
  keep : ∀ b o, H b = some o → ¬ isDk M b → H' b = some o
  old : ∀ b, F' b → H b ≠ none → F b
  dom : ∀ b, F' b → H' b ≠ none
  world : WRel M F' w' H'
section
variable {M : Ms} {F F1 F2 : FS} {w w1 w2 : Wd} {H H1 H2 : Hp}
theorem Grow.refl (hd : ∀ b, F b → H b ≠ none) (hw : WRel M F w H) : Grow M F H F w H := ⟨fun _ h => h, fun _ _ e _ => e, fun _ f _ => f, hd, hw⟩
theorem Grow.ext (g : Grow M F H F1 w1 H1) : Ext F H H1 := fun b o f e => g.keep b o e (g.world.not (g.sub b f))
theorem Grow.trans (a : Grow M F H F1 w1 H1) (b : Grow M F1 H1 F2 w2 H2) : Grow M F H F2 w2 H2 where
  sub := fun c f => b.sub c (a.sub c f)
  keep := fun c o e n => b.keep c o (a.keep c o e n) n
  old := fun c f n => by
    refine a.old c (b.old c f fun z => ?_) n
    cases q : H c with
    | none => exact n q
    | some o =>
      rw [a.keep c o q (b.world.not f)] at z
      cases z
  dom := b.dom
  world := b.world
/-- a new object -/
theorem Grow.new {p : Addr} {o : HO} (hd : ∀ b, F b → H b ≠ none) (hw : WRel M F w H) (hp : H p = none) : Grow M F H (fun b => F b ∨ b = p) w (upd H p o) where
  sub := fun _ f => .inl f
  keep := fun b u e _ => by rw [upd_ne (ne_of_none e hp)]; exact e
  old := fun b f n => by
    rcases f with f | rfl
    · exact f
    · exact absurd hp n
  dom := fun b f => by
    by_cases e : b = p
    · subst e; rw [upd_same]; exact fun z => by cases z
    · rw [upd_ne e]
      rcases f with f | z
      · exact hd b f
      · exact absurd z e
  world := fun q e => by
    obtain ⟨h1, h2, h3, h4, h5⟩ := hw q e
    have n1 := ne_of_none h1 hp
    have n2 := ne_of_none h2 hp
    refine ⟨by rw [upd_ne n1]; exact h1, by rw [upd_ne n2]; exact h2, ?_, ?_, h5⟩
    · rintro (f | z)
      · exact h3 f
      · exact n1 z
    · rintro (f | z)
      · exact h4 f
      · exact n2 z
end

/-! ### a frame -/
/-- the entry: what was tracked, what was frozen -/
structure Bs where
  H0 : Hp
  F0 : FS
abbrev Env3 := List (Option (Bool × D))
structure Gd (M : Ms) (B : Bs) (F : FS) (w : Wd) (H : Hp) : Prop where
  dom : ∀ b, F b → H b ≠ none
  world : WRel M F w H
  keep : ∀ b o, B.H0 b = some o → ¬ isDk M b → H b = some o
  old : ∀ b, F b → B.H0 b ≠ none → B.F0 b
  sub : ∀ b, B.F0 b → F b
theorem Gd.grow {M : Ms} {B : Bs} {F F' : FS} {w w' : Wd} {H H' : Hp} (g : Gd M B F w H) (x : Grow M F H F' w' H') : Gd M B F' w' H' where
  dom := x.dom
  world := x.world
  keep := fun b o e n => x.keep b o (g.keep b o e n) n
  old := fun b f n => by
    refine g.old b (x.old b f fun z => ?_) n
    cases q : B.H0 b with
    | none => exact n q
    | some o =>
      rw [g.keep b o q (x.world.not f)] at z
      cases z
  sub := fun b f => x.sub b (g.sub b f)
/-- from the entry to here -/
theorem Gd.whole {M : Ms} {B : Bs} {F : FS} {w : Wd} {H : Hp} (g : Gd M B F w H) : Grow M B.F0 B.H0 F w H := ⟨g.sub, g.keep, g.old, g.dom, g.world⟩

/-- an object that this frame alone knows, and may change -/
def OwnC (M : Ms) (F : FS) (H : Hp) (a : Addr) : D → Prop
  | .lst ds => ∃ xs, H a = some (.lst xs) ∧ RelDs M F H ds xs
  | .dic kvs => (∃ ps, H a = some (.dK ps) ∧ RelKs M F H kvs ps) ∨ ∃ ps, H a = some (.dT ps) ∧ RelTs M F H kvs ps
  | .obj c ds => ∃ dx xs, H a = some (.ins (M.cl c) dx (((M.nm c).take ds.length).zip xs)) ∧ RelDs M F H ds xs
  | _ => False
def Own (M : Ms) (B : Bs) (F : FS) (H : Hp) (d : D) (v : V) : Prop := ∃ a, v = .ref a ∧ ¬ F a ∧ B.H0 a = none ∧ ¬ isDk M a ∧ OwnC M F H a d
theorem OwnC.there {M : Ms} {F : FS} {H : Hp} {a : Addr} {d : D} (h : OwnC M F H a d) : ∃ o, H a = some o := by
  cases d with
  | lst ds => obtain ⟨xs, h, _⟩ := h; exact ⟨_, h⟩
  | dic kvs => rcases h with ⟨xs, h, _⟩ | ⟨xs, h, _⟩ <;> exact ⟨_, h⟩
  | obj c ds => obtain ⟨dx, xs, h, _⟩ := h; exact ⟨_, h⟩
  | _ => exact h.elim
theorem OwnC.mono {M : Ms} {F F' : FS} {H H' : Hp} {a : Addr} {d : D} (hs : Sub F F') (he : Ext F H H') (ha : ∀ o, H a = some o → H' a = some o) (h : OwnC M F H a d) : OwnC M F' H' a d := by
  cases d with
  | lst ds => obtain ⟨xs, h, r⟩ := h; exact ⟨xs, ha _ h, RelDs.mono hs he _ _ r⟩
  | dic kvs =>
    rcases h with ⟨xs, h, r⟩ | ⟨xs, h, r⟩
    · exact .inl ⟨xs, ha _ h, RelKs.mono hs he _ _ r⟩
    · exact .inr ⟨xs, ha _ h, RelTs.mono hs he _ _ r⟩
  | obj c ds => obtain ⟨dx, xs, h, r⟩ := h; exact ⟨dx, xs, ha _ h, RelDs.mono hs he _ _ r⟩
  | _ => exact h.elim

structure Cor (M : Ms) (B : Bs) (F : FS) (env : Env3) (w : Wd) (σ : Sl) (H : Hp) : Prop where
  gd : Gd M B F w H
  len : σ.length = env.length
  fro : ∀ (i : Nat) (d : D), env[i]? = some (some (false, d)) → ∃ v, σ[i]? = some (some v) ∧ RelD M F H d v
  own : ∀ (i : Nat) (d : D), env[i]? = some (some (true, d)) → ∃ v, σ[i]? = some (some v) ∧ Own M B F H d v
  sep : ∀ (i j : Nat) (d e : D) (v : V), env[i]? = some (some (true, d)) → env[j]? = some (some (true, e)) → σ[i]? = some (some v) → σ[j]? = some (some v) → i = j
section
variable {M : Ms} {B : Bs} {F F' : FS} {env : Env3} {w w' : Wd} {σ : Sl} {H H' : Hp}
theorem Cor.self (c : Cor M B F env w σ H) : Grow M F H F w H := .refl c.gd.dom c.gd.world
theorem Cor.grow (c : Cor M B F env w σ H) (g : Grow M F H F' w' H') : Cor M B F' env w' σ H' where
  gd := c.gd.grow g
  len := c.len
  fro := fun i d e => by
    obtain ⟨v, q, r⟩ := c.fro i d e
    exact ⟨v, q, RelD.mono g.sub g.ext _ _ r⟩
  own := fun i d e => by
    obtain ⟨v, q, a, rfl, nf, h0, nd, oc⟩ := c.own i d e
    obtain ⟨o, ho⟩ := oc.there
    refine ⟨_, q, a, rfl, fun f => nf (g.old a f (by rw [ho]; exact fun z => by cases z)), h0, nd, oc.mono g.sub g.ext fun o e => g.keep a o e nd⟩
  sep := c.sep
end

/-- a value that may only be looked at: any value, or the object of an owned slot -/
def RelB (M : Ms) (F : FS) (H : Hp) (env : Env3) (σ : Sl) (d : D) (v : V) : Prop := RelD M F H d v ∨ ∃ i : Nat, env[i]? = some (some (true, d)) ∧ σ[i]? = some (some v)

/-! ### results; expressions -/
inductive R3 (α : Type) where
  | ok (a : α) (w : Wd)
  | bad
abbrev M3 (α : Type) := Env3 → Wd → R3 α
def M3.bind {α β : Type} (f : M3 α) (k : α → M3 β) : M3 β := fun env w => match f env w with
  | .ok a w' => k a env w'
  | .bad => .bad
def M3.ret {α : Type} (a : α) : M3 α := fun _ w => .ok a w
def M3.opt {α : Type} (a : Option α) : M3 α := fun _ w => match a with
  | some a => .ok a w
  | none => .bad

def Post (M : Ms) (F : FS) (H : Hp) (r : R3 D) (Q : VK) : Prop := match r with
  | .ok d w' => ∀ F' H' v, Grow M F H F' w' H' → RelD M F' H' d v → Q v H'
  | .bad => False
def PostB (M : Ms) (F : FS) (H : Hp) (env : Env3) (σ : Sl) (r : R3 D) (Q : VK) : Prop := match r with
  | .ok d w' => ∀ F' H' v, Grow M F H F' w' H' → RelB M F' H' env σ d v → Q v H'
  | .bad => False
def PostBs (M : Ms) (F : FS) (H : Hp) (r : R3 Bool) (Q : Bool → Hp → Prop) : Prop := match r with
  | .ok b w' => ∀ F' H', Grow M F H F' w' H' → Q b H'
  | .bad => False
def PostA (M : Ms) (F : FS) (H : Hp) (r : R3 (List D)) (Q : List V → Hp → Prop) : Prop := match r with
  | .ok ds w' => ∀ F' H' vs, Grow M F H F' w' H' → RelDs M F' H' ds vs → Q vs H'
  | .bad => False
def RelBs (M : Ms) (F : FS) (H : Hp) (env : Env3) (σ : Sl) : List D → List V → Prop
  | [], vs => vs = []
  | d :: ds, vs => ∃ x xs, vs = x :: xs ∧ RelB M F H env σ d x ∧ RelBs M F H env σ ds xs
def PostAB (M : Ms) (F : FS) (H : Hp) (env : Env3) (σ : Sl) (r : R3 (List D)) (Q : List V → Hp → Prop) : Prop := match r with
  | .ok ds w' => ∀ F' H' vs, Grow M F H F' w' H' → RelBs M F' H' env σ ds vs → Q vs H'
  | .bad => False
/-- .. arguments that are only looked at -/
def T3ab (M : Ms) (f : M3 (List D)) : TA := fun σ H Q => ∃ B F env w, Cor M B F env w σ H ∧ PostAB M F H env σ (f env w) Q
/-- a reading: from a known frame the plain function f is run -/
def T3 (M : Ms) (f : M3 D) : TE := fun σ H Q => ∃ B F env w, Cor M B F env w σ H ∧ Post M F H (f env w) Q
/-- .. whose value is only looked at -/
def T3b (M : Ms) (f : M3 D) : TE := fun σ H Q => ∃ B F env w, Cor M B F env w σ H ∧ PostB M F H env σ (f env w) Q
/-- .. a test -/
def T3t (M : Ms) (f : M3 Bool) : TT := fun σ H Q => ∃ B F env w, Cor M B F env w σ H ∧ PostBs M F H (f env w) Q
/-- .. arguments -/
def T3a (M : Ms) (f : M3 (List D)) : TA := fun σ H Q => ∃ B F env w, Cor M B F env w σ H ∧ PostA M F H (f env w) Q

theorem PEi {X : Cx} {e : Expr} {t t' : TE} (h : PE X e t) (i : ∀ σ H Q, t' σ H Q → t σ H Q) : PE X e t' := ⟨fun pins s σ H Q I q => h.run pins s σ H Q I (i σ H Q q)⟩
theorem PTi {X : Cx} {e : Expr} {t t' : TT} (h : PT X e t) (i : ∀ σ H Q, t' σ H Q → t σ H Q) : PT X e t' := ⟨fun pins s σ H Q I q => h.run pins s σ H Q I (i σ H Q q)⟩
theorem PWi {X : Cx} {e : Expr} {t t' : TT} (h : PW X e t) (i : ∀ σ H Q, t' σ H Q → t σ H Q) : PW X e t' := ⟨fun wh pins s σ H Q I q => h.run wh pins s σ H Q I (i σ H Q q)⟩
theorem PAi {X : Cx} {es : List Expr} {t t' : TA} (h : PA X es t) (i : ∀ σ H Q, t' σ H Q → t σ H Q) : PA X es t' := ⟨fun pos pins s σ H Q I q => h.run pos pins s σ H Q I (i σ H Q q)⟩
theorem PSi {X : Cx} {st : Stmt} {t t' : TS} (h : PS X st t) (i : ∀ D σ H, t' D σ H → t D σ H) : PS X st t' := ⟨fun pins s σ H D I q => h.run pins s σ H D I (i D σ H q)⟩
theorem PSsi {X : Cx} {st : List Stmt} {t t' : TS} (h : PSs X st t) (i : ∀ D σ H, t' D σ H → t D σ H) : PSs X st t' := ⟨fun pins s σ H D I q => h.run pins s σ H D I (i D σ H q)⟩

section
variable {M : Ms} {B : Bs} {F : FS} {env : Env3} {w : Wd} {σ : Sl} {H : Hp} {Q : VK} {f : M3 D} {k : D → M3 D}
theorem T3.b (h : T3b M f σ H Q) : T3 M f σ H Q := by
  obtain ⟨B, F, env, w, c, p⟩ := h
  refine ⟨B, F, env, w, c, ?_⟩
  cases e : f env w with
  | bad => rw [e] at p; exact p.elim
  | ok d w' =>
    rw [e] at p
    exact fun F' H' v g r => p F' H' v g (.inl r)
theorem pe_b {X : Cx} {e : Expr} (h : PE X e (T3 M f)) : PE X e (T3b M f) := PEi h fun _ _ _ q => T3.b q
/-- first a, then what is made of it -/
theorem T3b.bind' {β : Type} {kk : D → M3 β} {P : R3 β → FS → Hp → Prop} (c : Cor M B F env w σ H) (p : P ((f.bind kk) env w) F H)
    (hbad : ∀ F H, ¬ P .bad F H) (hg : ∀ r F H F' H' w', Grow M F H F' w' H' → P r F H → P r F' H') :
    T3b M f σ H fun v H1 => ∃ F1 w1 d, Grow M F H F1 w1 H1 ∧ Cor M B F1 env w1 σ H1 ∧ RelB M F1 H1 env σ d v ∧ P (kk d env w1) F1 H1 := by
  refine ⟨B, F, env, w, c, ?_⟩
  unfold M3.bind at p
  cases e : f env w with
  | bad =>
    rw [e] at p
    exact (hbad _ _ p).elim
  | ok d w' =>
    rw [e] at p
    exact fun F' H' v g r => ⟨F', w', d, g, c.grow g, r, hg _ _ _ _ _ _ g p⟩
theorem Post.grow {r : R3 D} {F' : FS} {H' : Hp} {w' : Wd} (g : Grow M F H F' w' H') (p : Post M F H r Q) : Post M F' H' r Q := by
  cases r with
  | bad => exact p
  | ok d w2 => exact fun F2 H2 v g2 r => p F2 H2 v (g.trans g2) r
theorem PostA.grow {r : R3 (List D)} {Q : List V → Hp → Prop} {F' : FS} {H' : Hp} {w' : Wd} (g : Grow M F H F' w' H') (p : PostA M F H r Q) : PostA M F' H' r Q := by
  cases r with
  | bad => exact p
  | ok d w2 => exact fun F2 H2 v g2 r => p F2 H2 v (g.trans g2) r
theorem PostBs.grow {r : R3 Bool} {Q : Bool → Hp → Prop} {F' : FS} {H' : Hp} {w' : Wd} (g : Grow M F H F' w' H') (p : PostBs M F H r Q) : PostBs M F' H' r Q := by
  cases r with
  | bad => exact p
  | ok d w2 => exact fun F2 H2 g2 => p F2 H2 (g.trans g2)
theorem T3b.bind (c : Cor M B F env w σ H) (p : Post M F H ((f.bind k) env w) Q) :
    T3b M f σ H fun v H1 => ∃ F1 w1 d, Grow M F H F1 w1 H1 ∧ Cor M B F1 env w1 σ H1 ∧ RelB M F1 H1 env σ d v ∧ Post M F1 H1 (k d env w1) Q :=
  T3b.bind' (P := fun r F H => Post M F H r Q) c p (fun _ _ h => h) fun _ _ _ _ _ _ g p => p.grow g
theorem T3.bind' {β : Type} {kk : D → M3 β} {P : R3 β → FS → Hp → Prop} (c : Cor M B F env w σ H) (p : P ((f.bind kk) env w) F H)
    (hbad : ∀ F H, ¬ P .bad F H) (hg : ∀ r F H F' H' w', Grow M F H F' w' H' → P r F H → P r F' H') :
    T3 M f σ H fun v H1 => ∃ F1 w1 d, Grow M F H F1 w1 H1 ∧ Cor M B F1 env w1 σ H1 ∧ RelD M F1 H1 d v ∧ P (kk d env w1) F1 H1 := by
  refine ⟨B, F, env, w, c, ?_⟩
  unfold M3.bind at p
  cases e : f env w with
  | bad =>
    rw [e] at p
    exact (hbad _ _ p).elim
  | ok d w' =>
    rw [e] at p
    exact fun F' H' v g r => ⟨F', w', d, g, c.grow g, r, hg _ _ _ _ _ _ g p⟩
theorem T3.bind (c : Cor M B F env w σ H) (p : Post M F H ((f.bind k) env w) Q) :
    T3 M f σ H fun v H1 => ∃ F1 w1 d, Grow M F H F1 w1 H1 ∧ Cor M B F1 env w1 σ H1 ∧ RelD M F1 H1 d v ∧ Post M F1 H1 (k d env w1) Q :=
  T3.bind' (P := fun r F H => Post M F H r Q) c p (fun _ _ h => h) fun _ _ _ _ _ _ g p => p.grow g
theorem T3t.bind' {β : Type} {f : M3 Bool} {kk : Bool → M3 β} {P : R3 β → FS → Hp → Prop} (c : Cor M B F env w σ H) (p : P ((f.bind kk) env w) F H)
    (hbad : ∀ F H, ¬ P .bad F H) (hg : ∀ r F H F' H' w', Grow M F H F' w' H' → P r F H → P r F' H') :
    T3t M f σ H fun b H1 => ∃ F1 w1, Grow M F H F1 w1 H1 ∧ Cor M B F1 env w1 σ H1 ∧ P (kk b env w1) F1 H1 := by
  refine ⟨B, F, env, w, c, ?_⟩
  unfold M3.bind at p
  cases e : f env w with
  | bad =>
    rw [e] at p
    exact (hbad _ _ p).elim
  | ok d w' =>
    rw [e] at p
    exact fun F' H' g => ⟨F', w', g, c.grow g, hg _ _ _ _ _ _ g p⟩
theorem T3a.bind' {β : Type} {f : M3 (List D)} {kk : List D → M3 β} {P : R3 β → FS → Hp → Prop} (c : Cor M B F env w σ H) (p : P ((f.bind kk) env w) F H)
    (hbad : ∀ F H, ¬ P .bad F H) (hg : ∀ r F H F' H' w', Grow M F H F' w' H' → P r F H → P r F' H') :
    T3a M f σ H fun vs H1 => ∃ F1 w1 ds, Grow M F H F1 w1 H1 ∧ Cor M B F1 env w1 σ H1 ∧ RelDs M F1 H1 ds vs ∧ P (kk ds env w1) F1 H1 := by
  refine ⟨B, F, env, w, c, ?_⟩
  unfold M3.bind at p
  cases e : f env w with
  | bad =>
    rw [e] at p
    exact (hbad _ _ p).elim
  | ok d w' =>
    rw [e] at p
    exact fun F' H' v g r => ⟨F', w', d, g, c.grow g, r, hg _ _ _ _ _ _ g p⟩
theorem T3b.mono {P P' : VK} (h : T3b M f σ H P) (i : ∀ v H, P v H → P' v H) : T3b M f σ H P' := by
  obtain ⟨B, F, env, w, c, p⟩ := h
  refine ⟨B, F, env, w, c, ?_⟩
  cases e : f env w with
  | bad => rw [e] at p; exact p.elim
  | ok d w' => rw [e] at p; exact fun F' H' v g r => i _ _ (p F' H' v g r)
theorem T3.mono {P P' : VK} (h : T3 M f σ H P) (i : ∀ v H, P v H → P' v H) : T3 M f σ H P' := by
  obtain ⟨B, F, env, w, c, p⟩ := h
  refine ⟨B, F, env, w, c, ?_⟩
  cases e : f env w with
  | bad => rw [e] at p; exact p.elim
  | ok d w' => rw [e] at p; exact fun F' H' v g r => i _ _ (p F' H' v g r)
theorem T3t.mono {f : M3 Bool} {P P' : Bool → Hp → Prop} (h : T3t M f σ H P) (i : ∀ v H, P v H → P' v H) : T3t M f σ H P' := by
  obtain ⟨B, F, env, w, c, p⟩ := h
  refine ⟨B, F, env, w, c, ?_⟩
  cases e : f env w with
  | bad => rw [e] at p; exact p.elim
  | ok d w' => rw [e] at p; exact fun F' H' g => i _ _ (p F' H' g)
theorem T3a.mono {f : M3 (List D)} {P P' : List V → Hp → Prop} (h : T3a M f σ H P) (i : ∀ v H, P v H → P' v H) : T3a M f σ H P' := by
  obtain ⟨B, F, env, w, c, p⟩ := h
  refine ⟨B, F, env, w, c, ?_⟩
  cases e : f env w with
  | bad => rw [e] at p; exact p.elim
  | ok d w' => rw [e] at p; exact fun F' H' v g r => i _ _ (p F' H' v g r)
theorem T3ab.mono {f : M3 (List D)} {P P' : List V → Hp → Prop} (h : T3ab M f σ H P) (i : ∀ v H, P v H → P' v H) : T3ab M f σ H P' := by
  obtain ⟨B, F, env, w, c, p⟩ := h
  refine ⟨B, F, env, w, c, ?_⟩
  cases e : f env w with
  | bad => rw [e] at p; exact p.elim
  | ok d w' => rw [e] at p; exact fun F' H' v g r => i _ _ (p F' H' v g r)
theorem T3ab.bind' {β : Type} {f : M3 (List D)} {kk : List D → M3 β} {P : R3 β → FS → Hp → Prop} (c : Cor M B F env w σ H) (p : P ((f.bind kk) env w) F H)
    (hbad : ∀ F H, ¬ P .bad F H) (hg : ∀ r F H F' H' w', Grow M F H F' w' H' → P r F H → P r F' H') :
    T3ab M f σ H fun vs H1 => ∃ F1 w1 ds, Grow M F H F1 w1 H1 ∧ Cor M B F1 env w1 σ H1 ∧ RelBs M F1 H1 env σ ds vs ∧ P (kk ds env w1) F1 H1 := by
  refine ⟨B, F, env, w, c, ?_⟩
  unfold M3.bind at p
  cases e : f env w with
  | bad =>
    rw [e] at p
    exact (hbad _ _ p).elim
  | ok d w' =>
    rw [e] at p
    exact fun F' H' v g r => ⟨F', w', d, g, c.grow g, r, hg _ _ _ _ _ _ g p⟩
theorem PostAB.grow {r : R3 (List D)} {Q : List V → Hp → Prop} {F' : FS} {H' : Hp} {w' : Wd} (g : Grow M F H F' w' H') (p : PostAB M F H env σ r Q) : PostAB M F' H' env σ r Q := by
  cases r with
  | bad => exact p
  | ok d w2 => exact fun F2 H2 v g2 r => p F2 H2 v (g.trans g2) r
theorem PostB.grow {r : R3 D} {Q : VK} {F' : FS} {H' : Hp} {w' : Wd} (g : Grow M F H F' w' H') (p : PostB M F H env σ r Q) : PostB M F' H' env σ r Q := by
  cases r with
  | bad => exact p
  | ok d w2 => exact fun F2 H2 v g2 r => p F2 H2 v (g.trans g2) r
theorem RelB.grow {F' : FS} {H' : Hp} {w' : Wd} {d : D} {v : V} (g : Grow M F H F' w' H') (r : RelB M F H env σ d v) : RelB M F' H' env σ d v := by
  rcases r with r | r
  · exact .inl (RelD.mono g.sub g.ext _ _ r)
  · exact .inr r
end
theorem RelBs.grow {F F' : FS} {M : Ms} {env : Env3} {σ : Sl} {H H' : Hp} {w' : Wd} (g : Grow M F H F' w' H') : ∀ {ds : List D} {vs : List V}, RelBs M F H env σ ds vs → RelBs M F' H' env σ ds vs
  | [], _, h => h
  | d :: ds, _, ⟨x, xs, e, r, t⟩ => ⟨x, xs, e, r.grow g, RelBs.grow g t⟩
theorem RelDs.b {F : FS} {M : Ms} {env : Env3} {σ : Sl} {H : Hp} : ∀ {ds : List D} {vs : List V}, RelDs M F H ds vs → RelBs M F H env σ ds vs
  | [], _, h => h
  | d :: ds, _, ⟨x, xs, e, r, t⟩ => ⟨x, xs, e, .inl r, RelDs.b t⟩
end L3

set_option Elab.async false
set_option linter.all false
set_option maxRecDepth 100000
set_option maxHeartbeats 4000000
/-! L3Expr: expressions as plain functions. -/
namespace L3
open PySem PySem.Spec PyProof.Rows L2

section
variable {M : Ms} {B : Bs} {F : FS} {env : Env3} {w : Wd} {σ : Sl} {H : Hp} {Q : VK}
theorem Post.val {d : D} {v : V} (c : Cor M B F env w σ H) (p : Post M F H (.ok d w) Q) (r : RelD M F H d v) : Q v H := p F H v c.self r
theorem Post.lst {ds : List D} {xs : List V} {a : Addr} (c : Cor M B F env w σ H) (r : RelDs M F H ds xs) (p : Post M F H (.ok (.lst ds) w) Q) (ha : H a = none) : Q (.ref a) (upd H a (.lst xs)) := by
  have g := Grow.new (o := .lst xs) c.gd.dom c.gd.world ha
  exact p _ _ _ g ⟨a, xs, rfl, ⟨.inr rfl, upd_same⟩, RelDs.mono g.sub g.ext _ _ r⟩
theorem Post.tup {ds : List D} {xs : List V} {a : Addr} (c : Cor M B F env w σ H) (r : RelDs M F H ds xs) (p : Post M F H (.ok (.tup ds) w) Q) (ha : H a = none) : Q (.ref a) (upd H a (.tup xs)) := by
  have g := Grow.new (o := .tup xs) c.gd.dom c.gd.world ha
  exact p _ _ _ g ⟨a, xs, rfl, .inl ⟨.inr rfl, upd_same⟩, RelDs.mono g.sub g.ext _ _ r⟩
theorem Cor.lst {ds : List D} {v : V} (c : Cor M B F env w σ H) (r : RelB M F H env σ (.lst ds) v) : ∃ a xs, v = .ref a ∧ H a = some (.lst xs) ∧ RelDs M F H ds xs := by
  rcases r with ⟨a, xs, rfl, q, r⟩ | ⟨i, e, es⟩
  · exact ⟨a, xs, rfl, q.2, r⟩
  · obtain ⟨v', e', a, rfl, _, _, _, xs, h, r⟩ := c.own i _ e
    rw [es] at e'
    cases e'
    exact ⟨a, xs, rfl, h, r⟩
theorem Cor.tup {ds : List D} {v : V} (c : Cor M B F env w σ H) (r : RelB M F H env σ (.tup ds) v) : ∃ a xs, v = .ref a ∧ SqT3 M.K F H a xs ∧ RelDs M F H ds xs := by
  rcases r with ⟨a, xs, rfl, q, r⟩ | ⟨i, e, es⟩
  · exact ⟨a, xs, rfl, q, r⟩
  · obtain ⟨v', e', a, rfl, _, _, _, z⟩ := c.own i _ e
    exact z.elim
theorem Cor.int {i : Int} {v : V} (c : Cor M B F env w σ H) (r : RelB M F H env σ (.int i) v) : v = .int i := by
  rcases r with r | ⟨i, e, es⟩
  · exact r
  · obtain ⟨v', e', a, rfl, _, _, _, z⟩ := c.own i _ e
    exact z.elim
theorem Cor.str {i : Str} {v : V} (c : Cor M B F env w σ H) (r : RelB M F H env σ (.str i) v) : v = .str i := by
  rcases r with r | ⟨i, e, es⟩
  · exact r
  · obtain ⟨v', e', a, rfl, _, _, _, z⟩ := c.own i _ e
    exact z.elim
theorem Cor.bl {i : Bool} {v : V} (c : Cor M B F env w σ H) (r : RelB M F H env σ (.bl i) v) : v = .bl i := by
  rcases r with r | ⟨i, e, es⟩
  · exact r
  · obtain ⟨v', e', a, rfl, _, _, _, z⟩ := c.own i _ e
    exact z.elim
theorem Cor.non {v : V} (c : Cor M B F env w σ H) (r : RelB M F H env σ .non v) : v = .non := by
  rcases r with r | ⟨i, e, es⟩
  · exact r
  · obtain ⟨v', e', a, rfl, _, _, _, z⟩ := c.own i _ e
    exact z.elim
end

/-! ### names, constants -/
def evar (i : Nat) : M3 D := fun env w => match env[i]? with
  | some (some (false, d)) => .ok d w
  | _ => .bad
def evarB (i : Nat) : M3 D := fun env w => match env[i]? with
  | some (some (_, d)) => .ok d w
  | _ => .bad
def cst (d : D) : M3 D := fun _ w => .ok d w
section
variable {X : Cx} {M : Ms} {e a b c : Expr} {pos p : Pos} {f fa fb fc : M3 D}
theorem e3_var (i : Nat) {x : Str} (hN : X.N[i]? = some x := by rfl) (hv : Vis X.env.scope x := by first | exact Or.inl rfl | exact Or.inr (Or.inl rfl) | exact Or.inr (Or.inr rfl)) (hd : (x == ("__debug__" : Str)) = false := by decide)
    (hcd : (x == ("__classdict__" : Str)) = false := by decide) : PE X (.Name x pos) (T3 M (evar i)) := by
  refine PEi (pe_var hN hv hd hcd) fun σ H Q h => ?_
  obtain ⟨B, F, env, w, c, p⟩ := h
  unfold evar at p
  split at p
  · rename_i d e
    obtain ⟨v, q, r⟩ := c.fro i d e
    exact ⟨v, q, Post.val c p r⟩
  · exact p.elim
theorem e3_varB (i : Nat) {x : Str} (hN : X.N[i]? = some x := by rfl) (hv : Vis X.env.scope x := by first | exact Or.inl rfl | exact Or.inr (Or.inl rfl) | exact Or.inr (Or.inr rfl)) (hd : (x == ("__debug__" : Str)) = false := by decide)
    (hcd : (x == ("__classdict__" : Str)) = false := by decide) : PE X (.Name x pos) (T3b M (evarB i)) := by
  refine PEi (pe_var hN hv hd hcd) fun σ H Q h => ?_
  obtain ⟨B, F, env, w, c, p⟩ := h
  unfold evarB at p
  split at p
  · rename_i o d e
    cases o with
    | false =>
      obtain ⟨v, q, r⟩ := c.fro i d e
      exact ⟨v, q, p F H v c.self (.inl r)⟩
    | true =>
      obtain ⟨v, q, r⟩ := c.own i d e
      exact ⟨v, q, p F H v c.self (.inr ⟨i, e, q⟩)⟩
  · exact p.elim
theorem e3_cst {d : D} {v : V} (h : PE X e (tC v)) (r : ∀ F H, RelD M F H d v) : PE X e (T3 M (cst d)) := by
  refine PEi h fun σ H Q h => ?_
  obtain ⟨B, F, env, w, c, p⟩ := h
  exact Post.val c p (r F H)
theorem e3_int {i : Int} {j : Nat} : PE X (.Constant (.int i) j pos) (T3 M (cst (.int i))) := e3_cst pe_int fun _ _ => rfl
theorem e3_bl {i : Bool} {j : Nat} : PE X (.Constant (.bool i) j pos) (T3 M (cst (.bl i))) := e3_cst pe_bl fun _ _ => rfl
theorem e3_non {j : Nat} : PE X (.Constant .none j pos) (T3 M (cst .non)) := e3_cst pe_non fun _ _ => rfl
theorem e3_str {i : String} {j : Nat} : PE X (.Constant (.str i) j pos) (T3 M (cst (.str i))) := e3_cst pe_str fun _ _ => rfl
/-- a module's name that holds a text -/
theorem e3_gstr {x : Str} {s : Str} {t : Tok} (hg : Gl X x) (hm : X.mg x = some (.str s t)) (hd : (x == ("__debug__" : Str)) = false := by decide) : PE X (.Name x pos) (T3 M (cst (.str s))) :=
  e3_cst (pe_glob (v := .str s) hg hm ⟨t, rfl⟩ hd) fun _ _ => rfl

/-! ### operators -/
def m2 (g : D → D → Option D) (fa fb : M3 D) : M3 D := fa.bind fun x => fb.bind fun y => .opt (g x y)
def Lift2 (M : Ms) (r : R2) (g : D → D → Option D) : Prop := ∀ (B : Bs) (F : FS) (env : Env3) (w : Wd) (σ : Sl) (H : Hp) (dx dy d : D) (x y : V) (Q : VK),
  Cor M B F env w σ H → RelB M F H env σ dx x → RelB M F H env σ dy y → g dx dy = some d → Post M F H (.ok d w) Q → r x y H Q
theorem t3_op {r : R2} {g : D → D → Option D} (l : Lift2 M r g) : ∀ σ H Q, T3 M (m2 g fa fb) σ H Q → tOp r (T3b M fa) (T3b M fb) σ H Q := by
  intro σ H Q h
  obtain ⟨B, F, env, w, c, p⟩ := h
  refine T3b.mono (T3b.bind c p) fun x H1 ⟨F1, w1, d1, g1, c1, r1, p1⟩ => ?_
  refine T3b.mono (T3b.bind c1 p1) fun y H2 ⟨F2, w2, d2, g2, c2, r2, p2⟩ => ?_
  unfold M3.opt at p2
  cases e : g d1 d2 with
  | none => rw [e] at p2; exact p2.elim
  | some d =>
    rw [e] at p2
    exact l B F2 env w2 σ H2 d1 d2 d x y Q c2 (r1.grow g2) r2 e p2
theorem e3_op {op : Operator} {r : R2} {g : D → D → Option D} (ho : OpR X (binaryOp op) r) (l : Lift2 M r g) (ha : PE X a (T3b M fa)) (hb : PE X b (T3b M fb)) : PE X (.BinOp a op b pos) (T3 M (m2 g fa fb)) :=
  PEi (pe_op ho ha hb) (t3_op l)
theorem e3_cmp {op : CmpOp} {r : R2} {g : D → D → Option D} (ho : OpR X (compareOp op) r) (l : Lift2 M r g) (ha : PE X a (T3b M fa)) (hb : PE X b (T3b M fb)) (hm : behindInMarks op b = false := by first | exact nobehind _ (by decide) (by decide) | rfl) :
    PE X (.Compare a [op] [b] pos) (T3 M (m2 g fa fb)) := PEi (pe_cmp ⟨fun pins s σ H Q I h => binT ha hb I h fun v u s2 x y H2 I2 rx ry q => ho pins s2 σ H2 x y v u Q I2 rx ry q⟩ hm) (t3_op l)
end

/-! ### arithmetic, equality -/
theorem OpR.or {X : Cx} {f : Value → Value → Sem Value} {r r' : R2} (h : OpR X f r) (h' : OpR X f r') : OpR X f (fun x y H Q => r x y H Q ∨ r' x y H Q) := by
  intro pins s σ H x y v u Q I rx ry q
  rcases q with q | q
  · exact h pins s σ H x y v u Q I rx ry q
  · exact h' pins s σ H x y v u Q I rx ry q
abbrev SL : Nat := 16777216
theorem SL_eq : sizeLine = SL := sizeLine_eq
def dAdd : D → D → Option D
  | .int i, .int j => some (.int (i + j))
  | .str x, .str y => if x.length + y.length ≤ SL then some (.str (x ++ y)) else none
  | .lst x, .lst y => if x.length + y.length ≤ SL then some (.lst (x ++ y)) else none
  | .tup x, .tup y => if !x.isEmpty && decide (x.length + y.length ≤ SL) then some (.tup (x ++ y)) else none
  | _, _ => none
def dSub : D → D → Option D
  | .int i, .int j => some (.int (i - j))
  | _, _ => none
def dMul : D → D → Option D
  | .int i, .int j => if (-(2 ^ 64) < i ∧ i < 2 ^ 64) ∨ (-(2 ^ 64) < j ∧ j < 2 ^ 64) then some (.int (i * j)) else none
  | .lst x, .int k => if -(2 ^ 63) ≤ k ∧ k < 2 ^ 63 ∧ x.length * k.toNat ≤ SL then some (.lst (List.replicate k.toNat x).flatten) else none
  | .str x, .int k => if 2 ≤ k ∧ k ≤ 1000 ∧ 0 < x.length ∧ x.length ≤ 1000 then some (.str ⟨(List.replicate k.toNat x.cps).foldl (· ++ ·) #[]⟩) else none
  | _, _ => none
def dMod : D → D → Option D
  | .int i, .int j => if 0 < j then some (.int (i % j)) else none
  | _, _ => none
def dDiv : D → D → Option D
  | .int i, .int j => if 0 < j ∧ j < 1073741824 then some (.int (i / j)) else none
  | _, _ => none
def dPow : D → D → Option D
  | .int i, .int j => if 0 ≤ j ∧ j ≤ 1000000 ∧ i.natAbs < 2 ^ 64 then some (.int (i ^ j.toNat)) else none
  | _, _ => none
section
variable {X : Cx} {M : Ms}
theorem lift_int {C : Int → Int → Prop} {g : Int → Int → V} {G : D → D → Option D} (hG : ∀ x y d, G x y = some d → ∃ i j, x = .int i ∧ y = .int j ∧ C i j ∧ ∀ F H, RelD M F H d (g i j)) : Lift2 M (rI C g) G := by
  intro B F env w σ H dx dy d x y Q c rx ry e p
  obtain ⟨i, j, rfl, rfl, hc, r⟩ := hG _ _ _ e
  exact ⟨i, j, c.int rx, c.int ry, hc, Post.val c p (r F H)⟩
theorem lift_int0 {g : Int → Int → V} {G : D → D → Option D} (hG : ∀ x y d, G x y = some d → ∃ i j, x = .int i ∧ y = .int j ∧ ∀ F H, RelD M F H d (g i j)) : Lift2 M (rI0 g) G := by
  intro B F env w σ H dx dy d x y Q c rx ry e p
  obtain ⟨i, j, rfl, rfl, r⟩ := hG _ _ _ e
  exact ⟨i, j, c.int rx, c.int ry, Post.val c p (r F H)⟩
theorem lift_sub : Lift2 M (rI0 fun i j => .int (i - j)) dSub := lift_int0 fun x y d e => by
  unfold dSub at e
  split at e
  · cases e; exact ⟨_, _, rfl, rfl, fun _ _ => rfl⟩
  · cases e
theorem lift_mod : Lift2 M (rI (fun _ j => 0 < j) fun i j => .int (i % j)) dMod := lift_int fun x y d e => by
  unfold dMod at e
  split at e
  · split at e
    · rename_i h
      cases e; exact ⟨_, _, rfl, rfl, h, fun _ _ => rfl⟩
    · cases e
  · cases e
theorem lift_div : Lift2 M (rI CDiv fun i j => .int (i / j)) dDiv := lift_int fun x y d e => by
  unfold dDiv at e
  split at e
  · split at e
    · rename_i h
      cases e; exact ⟨_, _, rfl, rfl, h, fun _ _ => rfl⟩
    · cases e
  · cases e
theorem lift_pow : Lift2 M (rI CPow fun i j => .int (i ^ j.toNat)) dPow := lift_int fun x y d e => by
  unfold dPow at e
  split at e
  · split at e
    · rename_i h
      cases e; exact ⟨_, _, rfl, rfl, h, fun _ _ => rfl⟩
    · cases e
  · cases e
def rAddD (K : PySem.W.Frag) : R2 := fun x y H Q => (rI0 (fun i j => .int (i + j)) x y H Q) ∨ (∃ i j : Str, x = .str i ∧ y = .str j ∧ i.length + j.length ≤ sizeLine ∧ Q (.str (i ++ j)) H) ∨ rCat x y H Q ∨ rCatT K x y H Q
theorem op_addD : OpR X (binaryOp .Add) (rAddD X.K) := OpR.or op_add (OpR.or op_add_str (OpR.or op_cat op_catT))
theorem lift_add {K : PySem.W.Frag} (hK : M.K = K) : Lift2 M (rAddD K) dAdd := by
  subst hK
  intro B F env w σ H dx dy d x y Q c rx ry e p
  unfold dAdd at e
  split at e
  · cases e
    exact .inl ⟨_, _, c.int rx, c.int ry, Post.val c p rfl⟩
  · split at e
    · rename_i h
      cases e
      exact .inr (.inl ⟨_, _, c.str rx, c.str ry, by rw [SL_eq]; exact h, Post.val c p rfl⟩)
    · cases e
  · split at e
    · rename_i h
      cases e
      obtain ⟨a, xs, rfl, h1, r1⟩ := c.lst rx
      obtain ⟨b, ys, rfl, h2, r2⟩ := c.lst ry
      refine .inr (.inr (.inl ⟨a, b, xs, ys, rfl, rfl, h1, h2, by rw [SL_eq, ← r1.length, ← r2.length]; exact h, fun q hq => Post.lst c (r1.append r2) p hq⟩))
    · cases e
  · split at e
    · rename_i h
      cases e
      obtain ⟨a, xs, rfl, h1, r1⟩ := c.tup rx
      obtain ⟨b, ys, rfl, h2, r2⟩ := c.tup ry
      simp only [Bool.and_eq_true, Bool.not_eq_true', decide_eq_true_eq] at h
      refine .inr (.inr (.inr ⟨a, b, xs, ys, rfl, rfl, h1.sq, h2.sq, ?_, by rw [SL_eq, ← r1.length, ← r2.length]; exact h.2, fun z => ?_, fun z q hq => Post.tup c (r1.append r2) p hq⟩))
      · intro z
        subst z
        have := r1.length
        have h1 := h.1
        rw [List.isEmpty_eq_false_iff] at h1
        exact h1 (List.eq_nil_of_length_eq_zero this)
      · subst z
        have := r2.length
        have z2 := List.eq_nil_of_length_eq_zero this
        subst z2
        rw [List.append_nil] at p
        exact Post.val c p ⟨a, xs, rfl, h1, r1⟩
    · cases e
  · cases e
def rMulS : R2 := fun x y H Q => ∃ (z : Str) (k : Int), x = .str z ∧ y = .int k ∧ 2 ≤ k ∧ k ≤ 1000 ∧ 0 < z.length ∧ z.length ≤ 1000 ∧ Q (.str ⟨(List.replicate k.toNat z.cps).foldl (· ++ ·) #[]⟩) H
theorem op_mulS : OpR X (binaryOp .Mult) rMulS := by
  intro pins s σ H x y v u Q I rx ry h
  obtain ⟨z, k, rfl, rfl, h1, h2, h3, h4, q⟩ := h
  obtain ⟨t, rfl⟩ := rx
  obtain ⟨t', rfl⟩ := ry
  have e1 : ¬ k < 1 := by omega
  have e2 : (k == 1 || z.length == 0) = false := by
    have a : (k == 1) = false := by simp; omega
    have b : (z.length == 0) = false := by simp; omega
    rw [a, b]; rfl
  refine PySem.P.mul_str ?_ ?_ ?_ ?_
  · have a : decide (k < -(2 ^ 63 : Int)) = false := decide_eq_false (by omega)
    have b : decide (k ≥ 2 ^ 63) = false := decide_eq_false (by omega)
    rw [a, b]; rfl
  · intro _ _ z2
    have : (9007199254740992 : Int) ≤ (2 ^ 63 - 1) / k := by
      refine Int.le_ediv_of_mul_le (by omega) ?_
      have : (9007199254740992 : Int) * k ≤ 9007199254740992 * 1000 := Int.mul_le_mul_of_nonneg_left h2 (by decide)
      omega
    omega
  · intro _ _
    unfold Builtin.Str.tooLong
    rw [sizeLine_eq]
    refine decide_eq_false ?_
    have : z.length * k.toNat ≤ 1000 * 1000 := Nat.mul_le_mul h4 (by omega)
    omega
  · rw [if_neg e1, e2]
    simp only [Bool.false_eq_true, if_false]
    refine ⟨?_, .str _, H, I.tok _, ⟨_, rfl⟩, q⟩
    have len : ∀ (n : Nat) (acc : Array Nat), ((List.replicate n z.cps).foldl (· ++ ·) acc).size = acc.size + n * z.cps.size := by
      intro n
      induction n with
      | zero => intro acc; simp
      | succ n ih =>
        intro acc
        rw [List.replicate_succ, List.foldl_cons, ih, Array.size_append, Nat.succ_mul]
        omega
    have h5 := len k.toNat #[]
    show ((List.replicate k.toNat z.cps).foldl (· ++ ·) #[]).size ≤ sizeLine
    rw [h5, sizeLine_eq]
    have h6 : z.cps.size ≤ 1000 := h4
    have : k.toNat * z.cps.size ≤ 1000 * 1000 := Nat.mul_le_mul (by omega) h6
    simp
    omega
def rMulD : R2 := fun x y H Q => (rI CMul (fun i j => .int (i * j)) x y H Q) ∨ rRep x y H Q ∨ rMulS x y H Q
theorem op_mulD : OpR X (binaryOp .Mult) rMulD := OpR.or op_mul (OpR.or op_rep op_mulS)
theorem RelDs.rep {F : FS} {H : Hp} {ds : List D} {xs : List V} (r : RelDs M F H ds xs) : ∀ n : Nat, RelDs M F H (List.replicate n ds).flatten (List.replicate n xs).flatten
  | 0 => rfl
  | n + 1 => by
    rw [List.replicate_succ, List.replicate_succ, List.flatten_cons, List.flatten_cons]
    exact r.append (RelDs.rep r n)
theorem lift_mul : Lift2 M rMulD dMul := by
  intro B F env w σ H dx dy d x y Q c rx ry e p
  unfold dMul at e
  split at e
  · split at e
    · rename_i h
      cases e
      exact .inl ⟨_, _, c.int rx, c.int ry, h, Post.val c p rfl⟩
    · cases e
  · split at e
    · rename_i h
      cases e
      obtain ⟨a, xs, rfl, h1, r1⟩ := c.lst rx
      exact .inr (.inl ⟨a, _, xs, rfl, c.int ry, h1, h.1, h.2.1, by rw [SL_eq, ← r1.length]; exact h.2.2, fun q hq => Post.lst c (r1.rep _) p hq⟩)
    · cases e
  · split at e
    · rename_i h
      cases e
      exact .inr (.inr ⟨_, _, c.str rx, c.int ry, h.1, h.2.1, h.2.2.1, h.2.2.2, Post.val c p rfl⟩)
    · cases e
  · cases e
end
mutual
def pd : D → Option PyData
  | .non => some .none
  | .bl b => some (.bool b)
  | .int i => some (.int i)
  | .str s => some (.str s)
  | .tup ds => (pds ds).map .tuple
  | .lst ds => (pds ds).map .list
  | _ => none
def pds : List D → Option (List PyData)
  | [] => some []
  | d :: ds => (pd d).bind fun x => (pds ds).map fun xs => x :: xs
end
def dEq (a b : D) : Option D := (pd a).bind fun x => (pd b).bind fun y => if SeqAt.shaped x && SeqAt.shaped y then some (.bl (PyData.eqv x y)) else none
def dNe (a b : D) : Option D := (pd a).bind fun x => (pd b).bind fun y => if SeqAt.shaped x && SeqAt.shaped y then some (.bl (!PyData.eqv x y)) else none
section
variable {X : Cx} {M : Ms} {B : Bs} {F : FS} {env : Env3} {w : Wd} {σ : Sl} {H : Hp}
mutual
theorem dp_of : ∀ (d : D) (v : V) (x : PyData), RelD M F H d v → pd d = some x → Dp M.K H v x
  | .non, v, x, r, e => by
    have r : v = .non := r
    subst r; cases e; exact .non
  | .bl b, v, x, r, e => by
    have r : v = .bl b := r
    subst r; cases e; exact .bl b
  | .int i, v, x, r, e => by
    have r : v = .int i := r
    subst r; cases e; exact .int i
  | .str i, v, x, r, e => by
    have r : v = .str i := r
    subst r; cases e; exact .str i
  | .tup ds, v, x, r, e => by
    obtain ⟨a, xs, rfl, q, r⟩ := r
    have e : (pds ds).map PyData.tuple = some x := e
    cases h : pds ds with
    | none => rw [h] at e; cases e
    | some ys =>
      rw [h] at e; cases e
      exact .tup q.sq (dps_of ds xs ys r h)
  | .lst ds, v, x, r, e => by
    obtain ⟨a, xs, rfl, q, r⟩ := r
    have e : (pds ds).map PyData.list = some x := e
    cases h : pds ds with
    | none => rw [h] at e; cases e
    | some ys =>
      rw [h] at e; cases e
      exact .lst q.sq (dps_of ds xs ys r h)
  | .dic _, _, _, _, e => by cases e
  | .obj _ _, _, _, _, e => by cases e
  | .deck, _, _, _, e => by cases e
  | .glb _, _, _, _, e => by cases e
theorem dps_of : ∀ (ds : List D) (vs : List V) (xs : List PyData), RelDs M F H ds vs → pds ds = some xs → DpAll M.K H vs xs
  | [], vs, xs, r, e => by
    have r : vs = [] := r
    subst r; cases e; exact .nil
  | d :: ds, vs, xs, r, e => by
    obtain ⟨v, us, rfl, r1, r2⟩ := r
    have e : ((pd d).bind fun x => (pds ds).map fun xs => x :: xs) = some xs := e
    cases h : pd d with
    | none => rw [h] at e; cases e
    | some y =>
      rw [h] at e
      cases h2 : pds ds with
      | none => rw [h2] at e; cases e
      | some ys =>
        rw [h2] at e; cases e
        exact .cons (dp_of d v y r1 h) (dps_of ds us ys r2 h2)
end
theorem Cor.dp {d : D} {v : V} {x : PyData} (c : Cor M B F env w σ H) (r : RelB M F H env σ d v) (e : pd d = some x) : Dp M.K H v x := by
  rcases r with r | ⟨i, ei, es⟩
  · exact dp_of d v x r e
  · cases d with
    | lst ds =>
      obtain ⟨a, xs, rfl, h, r⟩ := c.lst (.inr ⟨i, ei, es⟩)
      have e : (pds ds).map PyData.list = some x := e
      cases h2 : pds ds with
      | none => rw [h2] at e; cases e
      | some ys =>
        rw [h2] at e; cases e
        exact .lst (.of h) (dps_of ds xs ys r h2)
    | dic _ => cases e
    | obj _ _ => cases e
    | _ =>
      obtain ⟨v', e', a, rfl, _, _, _, z⟩ := c.own i _ ei
      exact z.elim
theorem lift_eq {K : PySem.W.Frag} (hK : M.K = K) : Lift2 M (rEqD K) dEq := by
  subst hK
  intro B F env w σ H dx dy d x y Q c rx ry e p
  unfold dEq at e
  cases h1 : pd dx with
  | none => rw [h1] at e; cases e
  | some a =>
    rw [h1] at e
    cases h2 : pd dy with
    | none => rw [h2] at e; cases e
    | some b =>
      rw [h2] at e
      dsimp only [Option.bind] at e
      split at e
      · rename_i hs
        cases e
        rw [Bool.and_eq_true] at hs
        exact ⟨a, b, c.dp rx h1, c.dp ry h2, hs.1, hs.2, Post.val c p rfl⟩
      · cases e
theorem lift_ne {K : PySem.W.Frag} (hK : M.K = K) : Lift2 M (rNeD K) dNe := by
  subst hK
  intro B F env w σ H dx dy d x y Q c rx ry e p
  unfold dNe at e
  cases h1 : pd dx with
  | none => rw [h1] at e; cases e
  | some a =>
    rw [h1] at e
    cases h2 : pd dy with
    | none => rw [h2] at e; cases e
    | some b =>
      rw [h2] at e
      dsimp only [Option.bind] at e
      split at e
      · rename_i hs
        cases e
        rw [Bool.and_eq_true] at hs
        exact ⟨a, b, c.dp rx h1, c.dp ry h2, hs.1, hs.2, Post.val c p rfl⟩
      · cases e
end
def dCmp (p : Int → Int → Bool) : D → D → Option D
  | .int i, .int j => some (.bl (p i j))
  | _, _ => none
theorem lift_cmp {M : Ms} {p : Int → Int → Bool} : Lift2 M (rI0 fun i j => .bl (p i j)) (dCmp p) := lift_int0 fun x y d e => by
  unfold dCmp at e
  split at e
  · cases e; exact ⟨_, _, rfl, rfl, fun _ _ => rfl⟩
  · cases e

/-! ### tests -/
/-- a value that is True or False, as a test -/
def tst (f : M3 D) : M3 Bool := f.bind fun d => match d with
  | .bl b => M3.ret b
  | _ => fun _ _ => .bad
/-- a value's truth -/
def dTru : D → Option Bool
  | .non => some false
  | .bl b => some b
  | .int i => some (i != 0)
  | .str y => if y.length ≤ SL then some ((y.length : Int) != 0) else none
  | .lst ds => some (!ds.isEmpty)
  | .tup ds => some (!ds.isEmpty)
  | _ => none
def tru (f : M3 D) : M3 Bool := f.bind fun d => .opt (dTru d)
section
variable {X : Cx} {M : Ms} {e a b c : Expr} {rest : List Expr} {pos p : Pos} {f fa fb fc : M3 D} {ga gb gc : M3 Bool}
theorem t3_tst : ∀ σ H Q, T3t M (tst f) σ H Q → tTest (T3 M f) σ H Q := by
  intro σ H Q h
  obtain ⟨B, F, env, w, c, p⟩ := h
  refine T3.mono (T3.bind' (P := fun r F H => PostBs M F H r Q) c p (fun _ _ h => h) fun _ _ _ _ _ _ g p => p.grow g) fun v H1 ⟨F1, w1, d, g1, c1, r1, p1⟩ => ?_
  cases d with
  | bl k => exact ⟨k, r1, p1 F1 H1 c1.self⟩
  | _ => exact p1.elim
theorem e3_tst (h : PE X e (T3 M f)) (he : ∀ whole, isTrue e X.env whole = (do let v ← whole; standAt e.pos; holding [v] (truthy v)) := by intro _; rfl) : PT X e (T3t M (tst f)) :=
  PTi (pt_val h he) t3_tst
theorem e3_tcmp {op : CmpOp} {r : R2} {g : D → D → Option D} (ho : OpR X (compareOp op) r) (l : Lift2 M r g) (ha : PE X a (T3b M fa)) (hb : PE X b (T3b M fb)) (hm : behindInMarks op b = false := by first | exact nobehind _ (by decide) (by decide) | rfl) :
    PT X (.Compare a [op] [b] pos) (T3t M (tst (m2 g fa fb))) :=
  PTi (pt_cmpR ho ha hb hm) fun σ H Q h => t3_tst_op l σ H Q h
where
  t3_tst_op {r : R2} {g : D → D → Option D} (l : Lift2 M r g) : ∀ σ H Q, T3t M (tst (m2 g fa fb)) σ H Q → tTest (tOp r (T3b M fa) (T3b M fb)) σ H Q := fun σ H Q h => t3_op l _ _ _ (t3_tst _ _ _ h)
theorem e3_tru (h : PE X e (T3b M f)) (he : ∀ whole, isTrue e X.env whole = (do let v ← whole; standAt e.pos; holding [v] (truthy v)) := by intro _; rfl) (hK : M.K = X.K := by rfl) : PT X e (T3t M (tru f)) := by
  refine PTi (pt_truth h he) fun σ H Q h => ?_
  obtain ⟨B, F, env, w, c, p⟩ := h
  refine T3b.mono (T3b.bind' (P := fun r F H => PostBs M F H r Q) c p (fun _ _ h => h) fun _ _ _ _ _ _ g p => p.grow g) fun v H1 ⟨F1, w1, d, g1, c1, r1, p1⟩ => ?_
  unfold M3.opt at p1
  cases ek : dTru d with
  | none => rw [ek] at p1; exact p1.elim
  | some k =>
    rw [ek] at p1
    refine ⟨k, ?_, p1 F1 H1 c1.self⟩
    rw [← hK]
    unfold dTru at ek
    split at ek
    · cases ek; rw [c1.non r1]; exact rfl
    · cases ek; rw [c1.bl r1]; exact rfl
    · cases ek; rw [c1.int r1]; exact rfl
    · split at ek
      · rename_i hl
        cases ek; rw [c1.str r1]; exact ⟨by rw [SL_eq]; exact hl, rfl⟩
      · cases ek
    · cases ek
      obtain ⟨a, xs, rfl, h1, r2⟩ := c1.lst r1
      refine .inl ⟨xs, .of h1, ?_⟩
      have := r2.length
      rename_i ds _
      cases ds <;> cases xs <;> first | rfl | (simp at this)
    · cases ek
      obtain ⟨a, xs, rfl, h1, r2⟩ := c1.tup r1
      refine .inr (.inl ⟨xs, h1.sq, ?_⟩)
      have := r2.length
      rename_i ds _
      cases ds <;> cases xs <;> first | rfl | (simp at this)
    · cases ek
def tand (ga gb : M3 Bool) : M3 Bool := ga.bind fun c => if c = true then gb else M3.ret false
def tor (ga gb : M3 Bool) : M3 Bool := ga.bind fun c => if c = true then M3.ret true else gb
def tnot (ga : M3 Bool) : M3 Bool := ga.bind fun c => M3.ret (!c)
theorem T3t.bind {g : M3 Bool} {k : Bool → M3 Bool} {B : Bs} {F : FS} {env : Env3} {w : Wd} {σ : Sl} {H : Hp} {Q : Bool → Hp → Prop} (c : Cor M B F env w σ H) (p : PostBs M F H ((g.bind k) env w) Q) :
    T3t M g σ H fun b H1 => ∃ F1 w1, Grow M F H F1 w1 H1 ∧ Cor M B F1 env w1 σ H1 ∧ PostBs M F1 H1 (k b env w1) Q :=
  T3t.bind' (P := fun r F H => PostBs M F H r Q) c p (fun _ _ h => h) fun _ _ _ _ _ _ g p => p.grow g
theorem e3_and1 (ha : PT X a (T3t M ga)) : PW X (.BoolOp .And [a] pos) (T3t M ga) := pw_and1 ha
theorem e3_or1 (ha : PT X a (T3t M ga)) : PW X (.BoolOp .Or [a] pos) (T3t M ga) := pw_or1 ha
theorem e3_and (ha : PT X a (T3t M ga)) (hb : PW X (.BoolOp .And (b :: rest) pos) (T3t M gb)) : PW X (.BoolOp .And (a :: b :: rest) pos) (T3t M (tand ga gb)) := by
  refine PWi (pw_and ha hb) fun σ H Q h => ?_
  obtain ⟨B, F, env, w, c, p⟩ := h
  refine T3t.mono (T3t.bind c p) fun k H1 ⟨F1, w1, g1, c1, p1⟩ => ?_
  cases k with
  | true =>
    rw [if_pos rfl] at p1 ⊢
    exact ⟨B, F1, env, w1, c1, p1⟩
  | false =>
    rw [if_neg Bool.false_ne_true] at p1 ⊢
    exact p1 F1 H1 c1.self
theorem e3_or (ha : PT X a (T3t M ga)) (hb : PW X (.BoolOp .Or (b :: rest) pos) (T3t M gb)) : PW X (.BoolOp .Or (a :: b :: rest) pos) (T3t M (tor ga gb)) := by
  refine PWi (pw_or ha hb) fun σ H Q h => ?_
  obtain ⟨B, F, env, w, c, p⟩ := h
  refine T3t.mono (T3t.bind c p) fun k H1 ⟨F1, w1, g1, c1, p1⟩ => ?_
  cases k with
  | false =>
    rw [if_neg Bool.false_ne_true] at p1 ⊢
    exact ⟨B, F1, env, w1, c1, p1⟩
  | true =>
    rw [if_pos rfl] at p1 ⊢
    exact p1 F1 H1 c1.self
theorem e3_not (ha : PT X a (T3t M ga)) : PT X (.UnaryOp .Not a pos) (T3t M (tnot ga)) := by
  refine PTi (pt_not ha) fun σ H Q h => ?_
  obtain ⟨B, F, env, w, c, p⟩ := h
  exact T3t.mono (T3t.bind c p) fun k H1 ⟨F1, w1, g1, c1, p1⟩ => p1 F1 H1 c1.self
/-- a value from a test: a and b, a or b, not a where all are True or False -/
def vand (fa fb : M3 D) : M3 D := fa.bind fun x => match x with
  | .bl true => fb
  | .bl false => M3.ret (.bl false)
  | _ => fun _ _ => .bad
def vor (fa fb : M3 D) : M3 D := fa.bind fun x => match x with
  | .bl true => M3.ret (.bl true)
  | .bl false => fb
  | _ => fun _ _ => .bad
def vnot (fa : M3 D) : M3 D := fa.bind fun x => match x with
  | .bl c => M3.ret (.bl (!c))
  | _ => fun _ _ => .bad
theorem e3_one {op : BoolOp} (h : PE X a (T3 M fa)) : PE X (.BoolOp op [a] pos) (T3 M fa) := pe_one h
theorem e3_vand (ha : PE X a (T3 M fa)) (hb : PE X (.BoolOp .And (b :: rest) pos) (T3 M fb)) : PE X (.BoolOp .And (a :: b :: rest) pos) (T3 M (vand fa fb)) := by
  refine PEi (pe_and ha hb) fun σ H Q h => ?_
  obtain ⟨B, F, env, w, c, p⟩ := h
  refine T3.mono (T3.bind c p) fun v H1 ⟨F1, w1, d, g1, c1, r1, p1⟩ => ?_
  split at p1
  · exact ⟨true, r1, by rw [if_pos rfl]; exact ⟨B, F1, env, w1, c1, p1⟩⟩
  · exact ⟨false, r1, by rw [if_neg Bool.false_ne_true]; exact Post.val c1 p1 rfl⟩
  · exact p1.elim
theorem e3_vor (ha : PE X a (T3 M fa)) (hb : PE X (.BoolOp .Or (b :: rest) pos) (T3 M fb)) : PE X (.BoolOp .Or (a :: b :: rest) pos) (T3 M (vor fa fb)) := by
  refine PEi (pe_or ha hb) fun σ H Q h => ?_
  obtain ⟨B, F, env, w, c, p⟩ := h
  refine T3.mono (T3.bind c p) fun v H1 ⟨F1, w1, d, g1, c1, r1, p1⟩ => ?_
  split at p1
  · exact ⟨true, r1, by rw [if_pos rfl]; exact Post.val c1 p1 rfl⟩
  · exact ⟨false, r1, by rw [if_neg Bool.false_ne_true]; exact ⟨B, F1, env, w1, c1, p1⟩⟩
  · exact p1.elim
theorem e3_vnot (ha : PE X a (T3 M fa)) : PE X (.UnaryOp .Not a pos) (T3 M (vnot fa)) := by
  refine PEi (pe_not ha) fun σ H Q h => ?_
  obtain ⟨B, F, env, w, c, p⟩ := h
  refine T3.mono (T3.bind c p) fun v H1 ⟨F1, w1, d, g1, c1, r1, p1⟩ => ?_
  split at p1
  · exact ⟨_, r1, Post.val c1 p1 rfl⟩
  · exact p1.elim
def vif (g : M3 Bool) (fa fb : M3 D) : M3 D := g.bind fun c => if c = true then fa else fb
theorem e3_if (hc : PT X c (T3t M ga)) (ha : PE X a (T3 M fa)) (hb : PE X b (T3 M fb)) : PE X (.IfExp c a b pos) (T3 M (vif ga fa fb)) := by
  refine PEi (pe_ifExp hc ha hb) fun σ H Q h => ?_
  obtain ⟨B, F, env, w, c, p⟩ := h
  refine T3t.mono (T3t.bind' (P := fun r F H => Post M F H r Q) c p (fun _ _ h => h) fun _ _ _ _ _ _ g p => p.grow g) fun k H1 ⟨F1, w1, g1, c1, p1⟩ => ?_
  cases k with
  | true =>
    rw [if_pos rfl] at p1 ⊢
    exact ⟨B, F1, env, w1, c1, p1⟩
  | false =>
    rw [if_neg Bool.false_ne_true] at p1 ⊢
    exact ⟨B, F1, env, w1, c1, p1⟩
end

/-! ### arguments, displays -/
def anil : M3 (List D) := M3.ret []
def acons (f : M3 D) (r : M3 (List D)) : M3 (List D) := f.bind fun x => r.bind fun xs => M3.ret (x :: xs)
def mtup (f : M3 (List D)) : M3 D := f.bind fun ds => if ds.length ≤ SL then M3.ret (.tup ds) else fun _ _ => .bad
def mlst (f : M3 (List D)) : M3 D := f.bind fun ds => if ds.length ≤ SL then M3.ret (.lst ds) else fun _ _ => .bad
section
variable {X : Cx} {M : Ms} {e a b c : Expr} {es : List Expr} {pos p : Pos} {f fa fb fc : M3 D} {fs : M3 (List D)}
theorem e3a_nil : PA X [] (T3a M anil) := PAi pa_nil fun σ H Q h => by
  obtain ⟨B, F, env, w, c, p⟩ := h
  exact p F H [] c.self rfl
theorem e3a_cons (ha : PE X e (T3 M f)) (hr : PA X es (T3a M fs)) (hs : starEach (e :: es) X.env = (false, eval e X.env) :: starEach es X.env := by rfl) : PA X (e :: es) (T3a M (acons f fs)) := by
  refine PAi (pa_cons ha hr hs) fun σ H Q h => ?_
  obtain ⟨B, F, env, w, c, p⟩ := h
  refine T3.mono (T3.bind' (P := fun r F H => PostA M F H r Q) c p (fun _ _ h => h) fun _ _ _ _ _ _ g p => p.grow g) fun v H1 ⟨F1, w1, d, g1, c1, r1, p1⟩ => ?_
  refine T3a.mono (T3a.bind' (P := fun r F H => PostA M F H r Q) c1 p1 (fun _ _ h => h) fun _ _ _ _ _ _ g p => p.grow g) fun vs H2 ⟨F2, w2, ds, g2, c2, r2, p2⟩ => ?_
  exact p2 F2 H2 _ c2.self ⟨v, vs, rfl, RelD.mono g2.sub g2.ext _ _ r1, r2⟩
theorem e3ab_nil : PA X [] (T3ab M anil) := PAi pa_nil fun σ H Q h => by
  obtain ⟨B, F, env, w, c, p⟩ := h
  exact p F H [] c.self rfl
theorem e3ab_cons (ha : PE X e (T3b M f)) (hr : PA X es (T3ab M fs)) (hs : starEach (e :: es) X.env = (false, eval e X.env) :: starEach es X.env := by rfl) : PA X (e :: es) (T3ab M (acons f fs)) := by
  refine PAi (pa_cons ha hr hs) fun σ H Q h => ?_
  obtain ⟨B, F, env, w, c, p⟩ := h
  refine T3b.mono (T3b.bind' (P := fun r F H => PostAB M F H env σ r Q) c p (fun _ _ h => h) fun _ _ _ _ _ _ g p => p.grow g) fun v H1 ⟨F1, w1, d, g1, c1, r1, p1⟩ => ?_
  refine T3ab.mono (T3ab.bind' (P := fun r F H => PostAB M F H env σ r Q) c1 p1 (fun _ _ h => h) fun _ _ _ _ _ _ g p => p.grow g) fun vs H2 ⟨F2, w2, ds, g2, c2, r2, p2⟩ => ?_
  exact p2 F2 H2 _ c2.self ⟨v, vs, rfl, r1.grow g2, r2⟩
theorem e3_tup {k : _} (h : PA X es (T3a M fs)) : PE X (.Tuple es k pos) (T3 M (mtup fs)) := by
  refine PEi (pe_tup h) fun σ H Q h => ?_
  obtain ⟨B, F, env, w, c, p⟩ := h
  refine T3a.mono (T3a.bind' (P := fun r F H => Post M F H r Q) c p (fun _ _ h => h) fun _ _ _ _ _ _ g p => p.grow g) fun vs H1 ⟨F1, w1, ds, g1, c1, r1, p1⟩ => ?_
  split at p1
  · rename_i hl
    exact ⟨by rw [SL_eq, ← r1.length]; exact hl, fun q hq => Post.tup c1 r1 p1 hq⟩
  · exact p1.elim
theorem e3_lst (h : PA X es (T3a M fs)) : PE X (.List es pos) (T3 M (mlst fs)) := by
  refine PEi (pe_lst h) fun σ H Q h => ?_
  obtain ⟨B, F, env, w, c, p⟩ := h
  refine T3a.mono (T3a.bind' (P := fun r F H => Post M F H r Q) c p (fun _ _ h => h) fun _ _ _ _ _ _ g p => p.grow g) fun vs H1 ⟨F1, w1, ds, g1, c1, r1, p1⟩ => ?_
  split at p1
  · rename_i hl
    exact ⟨by rw [SL_eq, ← r1.length]; exact hl, fun q hq => Post.lst c1 r1 p1 hq⟩
  · exact p1.elim
end

/-! ### calls of built-ins, by values -/
def mC (g : List D → Option D) (fs : M3 (List D)) : M3 D := fs.bind fun ds => .opt (g ds)
def LiftC (M : Ms) (r : List V → Hp → VK → Prop) (g : List D → Option D) : Prop := ∀ (B : Bs) (F : FS) (env : Env3) (w : Wd) (σ : Sl) (H : Hp) (ds : List D) (d : D) (vs : List V) (Q : VK),
  Cor M B F env w σ H → RelBs M F H env σ ds vs → g ds = some d → Post M F H (.ok d w) Q → r vs H Q
section
variable {X : Cx} {M : Ms} {x : Str} {p pos : Pos} {e : Expr} {es : List Expr} {fs : M3 (List D)} {id T : String} {r : List V → Hp → VK → Prop} {g : List D → Option D}
theorem t3_cb (l : LiftC M r g) : ∀ σ H Q, T3 M (mC g fs) σ H Q → tCB r (T3ab M fs) σ H Q := by
  intro σ H Q h
  obtain ⟨B, F, env, w, c, p⟩ := h
  refine T3ab.mono (T3ab.bind' (P := fun r F H => Post M F H r Q) c p (fun _ _ h => h) fun _ _ _ _ _ _ g p => p.grow g) fun vs H1 ⟨F1, w1, ds, g1, c1, r1, p1⟩ => ?_
  unfold M3.opt at p1
  cases eg : g ds with
  | none => rw [eg] at p1; exact p1.elim
  | some d =>
    rw [eg] at p1
    exact l B F1 env w1 σ H1 ds d vs Q c1 r1 eg p1
theorem e3_callB (hc : CallR X (.builtin id) r) (l : LiftC M r g) (hg : Gl X x) (hm : X.mg x = none) (hv : bootBuiltins x = some (.builtin id)) (ha : PA X (e :: es) (T3ab M fs)) (hn : x ≠ "__name__" := by decide) (hdb : (x == ("__debug__" : Str)) = false := by decide)
    (he : starEach (e :: es) X.env = (false, eval e X.env) :: starEach es X.env := by rfl) (hpl : (backTo pos (starEach es X.env)).any (·.1) = false := by rfl) : PE X (.Call (.Name x p) (e :: es) [] pos) (T3 M (mC g fs)) :=
  PEi (pe_callB hc hg hm hv ha hn hdb he hpl) (t3_cb l)
theorem e3_callTy (hc : CallR X (.type T) r) (l : LiftC M r g) (hg : Gl X x) (hm : X.mg x = none) (hv : bootBuiltins x = some (.type T)) (ha : PA X (e :: es) (T3ab M fs)) (hn : x ≠ "__name__" := by decide) (hdb : (x == ("__debug__" : Str)) = false := by decide)
    (he : starEach (e :: es) X.env = (false, eval e X.env) :: starEach es X.env := by rfl) (hpl : (backTo pos (starEach es X.env)).any (·.1) = false := by rfl) : PE X (.Call (.Name x p) (e :: es) [] pos) (T3 M (mC g fs)) :=
  PEi (pe_callTy hc hg hm hv ha hn hdb he hpl) (t3_cb l)
end
section
variable {M : Ms} {F : FS} {env : Env3} {σ : Sl} {H : Hp}
theorem RelBs.one {d : D} {vs : List V} (r : RelBs M F H env σ [d] vs) : ∃ v, vs = [v] ∧ RelB M F H env σ d v := by
  obtain ⟨v, us, rfl, r, z⟩ := r
  have z : us = [] := z
  subst z
  exact ⟨v, rfl, r⟩
theorem RelBs.two {d e : D} {vs : List V} (r : RelBs M F H env σ [d, e] vs) : ∃ v u, vs = [v, u] ∧ RelB M F H env σ d v ∧ RelB M F H env σ e u := by
  obtain ⟨v, us, rfl, r, z⟩ := r
  obtain ⟨u, rfl, r2⟩ := z.one
  exact ⟨v, u, rfl, r, r2⟩
end
def dLen : List D → Option D
  | [.str s] => if s.length ≤ SL then some (.int s.length) else none
  | [.lst ds] => some (.int ds.length)
  | [.tup ds] => some (.int ds.length)
  | _ => none
theorem lift_len {M : Ms} {K : PySem.W.Frag} (hK : M.K = K) : LiftC M (fun xs H Q => ∃ x n, xs = [x] ∧ LenV K x H n ∧ Q (.int n) H) dLen := by
  subst hK
  intro B F env w σ H ds d vs Q c r e p
  unfold dLen at e
  split at e
  · split at e
    · rename_i h
      cases e
      obtain ⟨v, rfl, r0⟩ := r.one
      exact ⟨_, _, rfl, by rw [c.str r0]; exact ⟨by rw [SL_eq]; exact h, rfl⟩, Post.val c p rfl⟩
    · cases e
  · cases e
    obtain ⟨v, rfl, r0⟩ := r.one
    obtain ⟨a, xs, rfl, h1, r2⟩ := c.lst r0
    refine ⟨_, xs.length, rfl, .inl ⟨xs, .of h1, rfl⟩, ?_⟩
    rw [r2.length] at p
    exact Post.val c p rfl
  · cases e
    obtain ⟨v, rfl, r0⟩ := r.one
    obtain ⟨a, xs, rfl, h1, r2⟩ := c.tup r0
    refine ⟨_, xs.length, rfl, .inr ⟨xs, h1.sq, rfl⟩, ?_⟩
    rw [r2.length] at p
    exact Post.val c p rfl
  · cases e
def dInt : List D → Option D
  | [.int i] => some (.int i)
  | [.bl k] => some (.int (if k then 1 else 0))
  | _ => none
theorem lift_int1 {M : Ms} : LiftC M (fun xs H Q => (∃ i, xs = [.int i] ∧ Q (.int i) H) ∨ ∃ k, xs = [.bl k] ∧ Q (.int (if k then 1 else 0)) H) dInt := by
  intro B F env w σ H ds d vs Q c r e p
  unfold dInt at e
  split at e
  · cases e
    obtain ⟨v, rfl, r0⟩ := r.one
    exact .inl ⟨_, by rw [c.int r0], Post.val c p rfl⟩
  · cases e
    obtain ⟨v, rfl, r0⟩ := r.one
    exact .inr ⟨_, by rw [c.bl r0], Post.val c p rfl⟩
  · cases e
def dTuple : List D → Option D
  | [.lst ds] => some (.tup ds)
  | [.tup ds] => some (.tup ds)
  | _ => none
theorem lift_tuple {M : Ms} {K : PySem.W.Frag} (hK : M.K = K) : LiftC M (fun xs H Q => ∃ p ys, xs = [.ref p] ∧ ((SqL K H p ys ∧ ∀ l, H l = none → Q (.ref l) (upd H l (.tup ys))) ∨ (SqT K H p ys ∧ Q (.ref p) H))) dTuple := by
  subst hK
  intro B F env w σ H ds d vs Q c r e p
  unfold dTuple at e
  split at e
  · cases e
    obtain ⟨v, rfl, r0⟩ := r.one
    obtain ⟨a, xs, rfl, h1, r2⟩ := c.lst r0
    exact ⟨a, xs, rfl, .inl ⟨.of h1, fun l hl => Post.tup c r2 p hl⟩⟩
  · cases e
    obtain ⟨v, rfl, r0⟩ := r.one
    obtain ⟨a, xs, rfl, h1, r2⟩ := c.tup r0
    exact ⟨a, xs, rfl, .inr ⟨h1.sq, Post.val c p ⟨a, xs, rfl, h1, r2⟩⟩⟩
  · cases e
def dList : List D → Option D
  | [.lst ds] => some (.lst ds)
  | [.tup ds] => some (.lst ds)
  | _ => none
theorem lift_list {M : Ms} {K : PySem.W.Frag} (hK : M.K = K) : LiftC M (fun xs H Q => ∃ p ys, xs = [.ref p] ∧ (SqL K H p ys ∨ SqT K H p ys) ∧ ∀ l, H l = none → Q (.ref l) (upd H l (.lst ys))) dList := by
  subst hK
  intro B F env w σ H ds d vs Q c r e p
  unfold dList at e
  split at e
  · cases e
    obtain ⟨v, rfl, r0⟩ := r.one
    obtain ⟨a, xs, rfl, h1, r2⟩ := c.lst r0
    exact ⟨a, xs, rfl, .inl (.of h1), fun l hl => Post.lst c r2 p hl⟩
  · cases e
    obtain ⟨v, rfl, r0⟩ := r.one
    obtain ⟨a, xs, rfl, h1, r2⟩ := c.tup r0
    exact ⟨a, xs, rfl, .inr h1.sq, fun l hl => Post.lst c r2 p hl⟩
  · cases e
end L3

set_option Elab.async false
set_option linter.all false
set_option maxRecDepth 100000
set_option maxHeartbeats 4000000
/-! L3Expr2: subscripts, slices, methods of built-in types. -/
namespace L3
open PySem PySem.Spec PyProof.Rows L2

def dIx : D → D → Option D
  | .lst ds, .int i => atI ds i
  | .tup ds, .int i => atI ds i
  | .str z, .int i => if z.length ≤ SL then (atI z.cps.toList i).map fun c => .str ⟨#[c]⟩ else none
  | _, _ => none
section
variable {X : Cx} {M : Ms} {F : FS} {H : Hp}
theorem RelDs.atI {ds : List D} {xs : List V} {i : Int} {d : D} (r : RelDs M F H ds xs) (e : L2.atI ds i = some d) : ∃ v, L2.atI xs i = some v ∧ RelD M F H d v := by
  unfold L2.atI at e ⊢
  rw [r.length] at e
  cases h : ixN xs.length i with
  | none => rw [h] at e; cases e
  | some j =>
    rw [h] at e
    exact r.get e
theorem lift_ix {K : PySem.W.Frag} (hK : M.K = K) : Lift2 M (rIx K) dIx := by
  subst hK
  intro B F env w σ H dx dy d x y Q c rx ry e p
  unfold dIx at e
  split at e
  · obtain ⟨a, xs, rfl, h1, r1⟩ := c.lst rx
    obtain ⟨v, e1, r2⟩ := r1.atI e
    exact .inl ⟨a, xs, _, v, rfl, c.int ry, .of h1, e1, Post.val c p r2⟩
  · obtain ⟨a, xs, rfl, h1, r1⟩ := c.tup rx
    obtain ⟨v, e1, r2⟩ := r1.atI e
    exact .inr (.inl ⟨a, xs, _, v, rfl, c.int ry, h1.sq, e1, Post.val c p r2⟩)
  · split at e
    · rename_i hz
      rename_i z i
      cases h : L2.atI z.cps.toList i with
      | none => rw [h] at e; cases e
      | some k =>
        rw [h] at e
        cases e
        exact .inr (.inr ⟨_, _, k, c.str rx, c.int ry, by rw [SL_eq]; exact hz, h, Post.val c p rfl⟩)
    · cases e
  · cases e
variable {a b : Expr} {fa fb : M3 D} {pos : Pos}
theorem e3_ix {r : R2} {g : D → D → Option D} (hr : IxR X r) (l : Lift2 M r g) (ha : PE X a (T3b M fa)) (hb : PE X b (T3b M fb)) (hs : PlainIx b := by intro _ _; rfl) : PE X (.Subscript a b pos) (T3 M (m2 g fa fb)) :=
  PEi (pe_ix hr ha hb hs) (t3_op l)
end

/-! ### slices -/
def onone : M3 (Option Int) := M3.ret none
def osome (f : M3 D) : M3 (Option Int) := f.bind fun d => match d with
  | .int i => M3.ret (some i)
  | _ => fun _ _ => .bad
def PostO (M : Ms) (F : FS) (H : Hp) (r : R3 (Option Int)) (Q : Option Int → Hp → Prop) : Prop := match r with
  | .ok b w' => ∀ F' H', Grow M F H F' w' H' → Q b H'
  | .bad => False
def T3o (M : Ms) (f : M3 (Option Int)) : TO := fun σ H Q => ∃ B F env w, Cor M B F env w σ H ∧ PostO M F H (f env w) Q
section
variable {M : Ms} {B : Bs} {F : FS} {env : Env3} {w : Wd} {σ : Sl} {H : Hp} {Q : VK} {f : M3 D} {k : D → M3 D}
theorem POi {X : Cx} {e : Option Expr} {t t' : TO} (h : PO X e t) (i : ∀ σ H Q, t' σ H Q → t σ H Q) : PO X e t' := ⟨fun pins s σ H Q I q => h.run pins s σ H Q I (i σ H Q q)⟩
theorem PostO.grow {r : R3 (Option Int)} {Q : Option Int → Hp → Prop} {F' : FS} {H' : Hp} {w' : Wd} (g : Grow M F H F' w' H') (p : PostO M F H r Q) : PostO M F' H' r Q := by
  cases r with
  | bad => exact p
  | ok d w2 => exact fun F2 H2 g2 => p F2 H2 (g.trans g2)
theorem T3o.mono {f : M3 (Option Int)} {P P' : Option Int → Hp → Prop} (h : T3o M f σ H P) (i : ∀ v H, P v H → P' v H) : T3o M f σ H P' := by
  obtain ⟨B, F, env, w, c, p⟩ := h
  refine ⟨B, F, env, w, c, ?_⟩
  cases e : f env w with
  | bad => rw [e] at p; exact p.elim
  | ok d w' => rw [e] at p; exact fun F' H' g => i _ _ (p F' H' g)
theorem T3o.bind {f : M3 (Option Int)} {k : Option Int → M3 D} (c : Cor M B F env w σ H) (p : Post M F H ((f.bind k) env w) Q) :
    T3o M f σ H fun b H1 => ∃ F1 w1, Grow M F H F1 w1 H1 ∧ Cor M B F1 env w1 σ H1 ∧ Post M F1 H1 (k b env w1) Q := by
  refine ⟨B, F, env, w, c, ?_⟩
  unfold M3.bind at p
  cases e : f env w with
  | bad => rw [e] at p; exact p.elim
  | ok d w' =>
    rw [e] at p
    exact fun F' H' g => ⟨F', w', g, c.grow g, p.grow g⟩
theorem e3o_none {X : Cx} : PO X none (T3o M onone) := POi po_none fun σ H Q h => by
  obtain ⟨B, F, env, w, c, p⟩ := h
  exact p F H c.self
theorem e3o_some {X : Cx} {e : Expr} (h : PE X e (T3 M f)) : PO X (some e) (T3o M (osome f)) := POi (po_some h) fun σ H Q h => by
  obtain ⟨B, F, env, w, c, p⟩ := h
  refine T3.mono (T3.bind' (P := fun r F H => PostO M F H r Q) c p (fun _ _ h => h) fun _ _ _ _ _ _ g p => p.grow g) fun v H1 ⟨F1, w1, d, g1, c1, r1, p1⟩ => ?_
  cases d with
  | int i => exact ⟨i, r1, p1 F1 H1 c1.self⟩
  | _ => exact p1.elim
end
def cutD (ds : List D) (lo hi : Option Int) : List D := (ds.drop (HT.sIx ds.length 0 lo)).take (HT.sIx ds.length ds.length hi - HT.sIx ds.length 0 lo)
@[irreducible] def dSl : D → Option Int → Option Int → Option D
  | .lst ds, lo, hi => some (.lst (cutD ds lo hi))
  | .tup ds, lo, hi => if HT.sIx ds.length 0 lo = 0 ∧ HT.sIx ds.length ds.length hi = ds.length then none else some (.tup (cutD ds lo hi))
  | .str z, lo, hi => if z.length ≤ SL then some (.str (cutS z lo hi)) else none
  | _, _, _ => none
def msl (f : M3 D) (lo hi : M3 (Option Int)) : M3 D := f.bind fun x => lo.bind fun l => hi.bind fun u => .opt (dSl x l u)
section
variable {X : Cx} {M : Ms} {F : FS} {H : Hp}
theorem RelDs.cut {ds : List D} {xs : List V} (r : RelDs M F H ds xs) (lo hi : Option Int) : RelDs M F H (cutD ds lo hi) (cutV xs lo hi) := by
  unfold cutD cutV
  rw [r.length]
  exact (r.drop _).take _
def rSlD (K : PySem.W.Frag) : V → Option Int → Option Int → Hp → VK → Prop := fun x lo hi H Q => rSlL K x lo hi H Q ∨ (fun x lo hi H Q => rSlT K x lo hi H Q ∨ rSlS x lo hi H Q) x lo hi H Q
theorem sl_all : SlR X (rSlD X.K) := SlR.or sl_list (SlR.or sl_tup sl_str)
theorem e3_sl {e : Expr} {lo hi : Option Expr} {pos p2 : Pos} {f : M3 D} {fl fu : M3 (Option Int)} (he : PE X e (T3b M f)) (hl : PO X lo (T3o M fl)) (hu : PO X hi (T3o M fu)) (hK : M.K = X.K := by rfl) :
    PE X (.Subscript e (.Slice lo hi none p2) pos) (T3 M (msl f fl fu)) := by
  refine PEi (pe_slice sl_all he hl hu) fun σ H Q h => ?_
  obtain ⟨B, F, env, w, c, p⟩ := h
  refine T3b.mono (T3b.bind c p) fun v H1 ⟨F1, w1, d, g1, c1, r1, p1⟩ => ?_
  refine T3o.mono (T3o.bind c1 p1) fun l H2 ⟨F2, w2, g2, c2, p2⟩ => ?_
  refine T3o.mono (T3o.bind c2 p2) fun u H3 ⟨F3, w3, g3, c3, p3⟩ => ?_
  have r3 := (r1.grow g2).grow g3
  unfold M3.opt at p3
  cases ed : dSl d l u with
  | none => rw [ed] at p3; exact p3.elim
  | some z =>
    rw [ed] at p3
    rw [← hK]
    unfold dSl at ed
    split at ed
    · cases ed
      obtain ⟨a, xs, rfl, h1, r4⟩ := c3.lst r3
      exact .inl ⟨a, xs, rfl, .of h1, fun q hq => Post.lst c3 (r4.cut _ _) p3 hq⟩
    · split at ed
      · cases ed
      · rename_i hw
        cases ed
        obtain ⟨a, xs, rfl, h1, r4⟩ := c3.tup r3
        rw [r4.length] at hw
        exact .inr (.inl ⟨a, xs, rfl, h1.sq, hw, fun q hq => Post.tup c3 (r4.cut _ _) p3 hq⟩)
    · split at ed
      · rename_i hz
        cases ed
        exact .inr (.inr ⟨_, c3.str r3, by rw [SL_eq]; exact hz, Post.val c3 p3 rfl⟩)
      · cases ed
    · cases ed
end

/-! ### methods that only look -/
def mM (g : D → List D → Option D) (fo : M3 D) (fs : M3 (List D)) : M3 D := fo.bind fun x => fs.bind fun ds => .opt (g x ds)
structure LiftM (M : Ms) (T : String) (r : V → List V → Hp → VK → Prop) (g : D → List D → Option D) : Prop where
  ty : ∀ (B : Bs) (F : FS) (env : Env3) (w : Wd) (σ : Sl) (H : Hp) (x : D) (ds : List D) (d : D) (v : V), Cor M B F env w σ H → RelB M F H env σ x v → g x ds = some d → tyV M.K T v H
  do_ : ∀ (B : Bs) (F : FS) (env : Env3) (w : Wd) (σ : Sl) (H : Hp) (x : D) (ds : List D) (d : D) (v : V) (vs : List V) (Q : VK), Cor M B F env w σ H → RelB M F H env σ x v → RelBs M F H env σ ds vs → g x ds = some d → Post M F H (.ok d w) Q → r v vs H Q
section
variable {X : Cx} {M : Ms} {o e : Expr} {es : List Expr} {fo : M3 D} {fs : M3 (List D)} {name : Str} {apos cpos : Pos} {T id : String} {r : V → List V → Hp → VK → Prop} {g : D → List D → Option D}
theorem e3_bm (pa : PlainAttrs T) (slot : Slot T name id) (hty : typeOf (.builtin id) = pure (.type "method_descriptor")) (hm : MtR X id r) (l : LiftM M T r g) (ho : PE X o (T3b M fo)) (ha : PA X (e :: es) (T3ab M fs)) (hK : M.K = X.K := by rfl)
    (hbase : attributeBase o name X.env (eval o X.env) = eval o X.env := by rfl)
    (hfew : ((backTo cpos (starEach (e :: es) X.env)).all (fun x => !x.1) && (backToKw cpos (keywordEach [] X.env)).all (fun x => x.1.isSome)
      && decide ((e :: es).length + ([] : List Keyword).length + (if ([] : List Keyword).isEmpty then 0 else 1) < 30)) = true := by rfl)
    (hline : (apos.endLine == cpos.line) = true := by rfl) (hs : starEach (e :: es) X.env = (false, eval e X.env) :: starEach es X.env := by rfl) (hplain : (backTo cpos (starEach es X.env)).any (·.1) = false := by rfl) :
    PE X (.Call (.Attribute o name apos) (e :: es) [] cpos) (T3 M (mM g fo fs)) := by
  refine PEi (pe_bm pa slot hty hm ho ha hbase hfew hline hs hplain) fun σ H Q h => ?_
  obtain ⟨B, F, env, w, c, p⟩ := h
  refine T3b.mono (T3b.bind c p) fun v H1 ⟨F1, w1, d, g1, c1, r1, p1⟩ => ?_
  refine ⟨?_, ?_⟩
  · rw [← hK]
    unfold M3.bind at p1
    cases e1 : fs env w1 with
    | bad => rw [e1] at p1; exact p1.elim
    | ok ds w2 =>
      rw [e1] at p1
      unfold M3.opt at p1
      dsimp only at p1
      cases e2 : g d ds with
      | none => rw [e2] at p1; exact p1.elim
      | some z => exact l.ty B F1 env w1 σ H1 d ds z v c1 r1 e2
  · refine T3ab.mono (T3ab.bind' (P := fun r F H => Post M F H r Q) c1 p1 (fun _ _ h => h) fun _ _ _ _ _ _ g p => p.grow g) fun vs H2 ⟨F2, w2, ds, g2, c2, r2, p2⟩ => ?_
    unfold M3.opt at p2
    cases e2 : g d ds with
    | none => rw [e2] at p2; exact p2.elim
    | some z =>
      rw [e2] at p2
      exact l.do_ B F2 env w2 σ H2 d ds z v vs Q c2 (r1.grow g2) r2 e2 p2
end
def strsD : List D → Option (List Str)
  | [] => some []
  | .str s :: ds => (strsD ds).map fun r => s :: r
  | _ => none
theorem strsD_rel {M : Ms} {F : FS} {H : Hp} : ∀ {ds : List D} {ys : List Str} {xs : List V}, strsD ds = some ys → RelDs M F H ds xs → xs = ys.map V.str
  | [], ys, xs, e, r => by
    cases e
    exact r
  | .str s :: ds, ys, xs, e, r => by
    obtain ⟨v, us, rfl, r1, r2⟩ := r
    have e : (strsD ds).map (fun r => s :: r) = some ys := e
    cases h : strsD ds with
    | none => rw [h] at e; cases e
    | some zs =>
      rw [h] at e
      cases e
      rw [strsD_rel h r2]
      have r1 : v = .str s := r1
      rw [r1]
      rfl
theorem strsD_map (ys : List Str) : strsD (ys.map D.str) = some ys := by
  induction ys with
  | nil => rfl
  | cons y ys ih =>
    show (strsD (ys.map D.str)).map (fun r => y :: r) = some (y :: ys)
    rw [ih]; rfl
def intsD : List D → Option (List Int)
  | [] => some []
  | .int s :: ds => (intsD ds).map fun r => s :: r
  | _ => none
theorem intsD_rel {M : Ms} {F : FS} {H : Hp} : ∀ {ds : List D} {ys : List Int} {xs : List V}, intsD ds = some ys → RelDs M F H ds xs → xs = ys.map V.int
  | [], ys, xs, e, r => by
    cases e
    exact r
  | .int s :: ds, ys, xs, e, r => by
    obtain ⟨v, us, rfl, r1, r2⟩ := r
    have e : (intsD ds).map (fun r => s :: r) = some ys := e
    cases h : intsD ds with
    | none => rw [h] at e; cases e
    | some zs =>
      rw [h] at e
      cases e
      rw [intsD_rel h r2]
      have r1 : v = .int s := r1
      rw [r1]
      rfl
theorem intsD_map (ys : List Int) : intsD (ys.map D.int) = some ys := by
  induction ys with
  | nil => rfl
  | cons y ys ih =>
    show (intsD (ys.map D.int)).map (fun r => y :: r) = some (y :: ys)
    rw [ih]; rfl
def blsD : List D → Option (List Bool)
  | [] => some []
  | .bl s :: ds => (blsD ds).map fun r => s :: r
  | _ => none
theorem blsD_rel {M : Ms} {F : FS} {H : Hp} : ∀ {ds : List D} {ys : List Bool} {xs : List V}, blsD ds = some ys → RelDs M F H ds xs → xs = ys.map V.bl
  | [], ys, xs, e, r => by
    cases e
    exact r
  | .bl s :: ds, ys, xs, e, r => by
    obtain ⟨v, us, rfl, r1, r2⟩ := r
    have e : (blsD ds).map (fun r => s :: r) = some ys := e
    cases h : blsD ds with
    | none => rw [h] at e; cases e
    | some zs =>
      rw [h] at e
      cases e
      rw [blsD_rel h r2]
      have r1 : v = .bl s := r1
      rw [r1]
      rfl
theorem blsD_map (ys : List Bool) : blsD (ys.map D.bl) = some ys := by
  induction ys with
  | nil => rfl
  | cons y ys ih =>
    show (blsD (ys.map D.bl)).map (fun r => y :: r) = some (y :: ys)
    rw [ih]; rfl
/-- sep.join(texts) -/
def dJoin : D → List D → Option D
  | .str a, [.lst ds] => (strsD ds).bind fun ys => if (ys.map (·.length)).sum + ys.length * a.length ≤ SL then some (.str (Txt.join a ys)) else none
  | _, _ => none
theorem lift_join {M : Ms} {K : PySem.W.Frag} (hK : M.K = K) : LiftM M "str" (fun x xs H Q => ∃ a p, ∃ ys : List Str, x = .str a ∧ xs = [.ref p] ∧ (SqL K H p (ys.map V.str) ∨ SqT K H p (ys.map V.str)) ∧
    (ys.map (·.length)).sum + ys.length * a.length ≤ 16777216 ∧ Q (.str (Txt.join a ys)) H) dJoin where
  ty := by
    intro B F env w σ H x ds d v c r e
    unfold dJoin at e
    split at e
    · rw [c.str r]; exact rfl
    · cases e
  do_ := by
    subst hK
    intro B F env w σ H x ds d v vs Q c r rs e p
    unfold dJoin at e
    split at e
    · rename_i a ds
      cases h : strsD ds with
      | none => rw [h] at e; cases e
      | some ys =>
        rw [h] at e
        dsimp only [Option.bind] at e
        split at e
        · rename_i hl
          cases e
          obtain ⟨u, rfl, r1⟩ := rs.one
          obtain ⟨b, xs, rfl, h1, r2⟩ := c.lst r1
          rw [strsD_rel h r2] at h1
          exact ⟨a, b, ys, c.str r, rfl, .inl (.of h1), hl, Post.val c p rfl⟩
        · cases e
    · cases e
/-- min, all of lists -/
def dMin : List D → Option D
  | [.lst ds] => (intsD ds).bind fun ns => match ns with
    | [] => none
    | n :: r => some (.int (r.foldl min n))
  | _ => none
theorem foldl_min (r : List Int) : ∀ n : Int, r.foldl min n ∈ n :: r ∧ ∀ y ∈ n :: r, r.foldl min n ≤ y := by
  induction r with
  | nil => intro n; simp
  | cons a r ih =>
    intro n
    obtain ⟨h1, h2⟩ := ih (min n a)
    rw [List.foldl_cons]
    refine ⟨?_, fun y hy => ?_⟩
    · rcases List.mem_cons.mp h1 with e | e
      · rw [e]
        by_cases hh : n ≤ a
        · rw [Int.min_eq_left hh]; simp
        · rw [Int.min_eq_right (by omega)]; simp
      · simp [e]
    · have h3 := h2 (min n a) List.mem_cons_self
      rcases List.mem_cons.mp hy with e | e
      · subst e; have := Int.min_le_left y a; omega
      · rcases List.mem_cons.mp e with e | e
        · subst e; have := Int.min_le_right n y; omega
        · exact h2 y (List.mem_cons_of_mem _ e)
theorem lift_min {M : Ms} {K : PySem.W.Frag} (hK : M.K = K) : LiftC M (rMin K) dMin := by
  subst hK
  intro B F env w σ H ds d vs Q c r e p
  unfold dMin at e
  split at e
  · rename_i ds
    cases h : intsD ds with
    | none => rw [h] at e; cases e
    | some ns =>
      rw [h] at e
      dsimp only [Option.bind] at e
      split at e
      · cases e
      · rename_i n rest
        cases e
        obtain ⟨v, rfl, r0⟩ := r.one
        obtain ⟨a, xs, rfl, h1, r2⟩ := c.lst r0
        rw [intsD_rel h r2] at h1
        refine ⟨a, n :: rest, rfl, .of h1, by simp, fun m hm hle => ?_⟩
        obtain ⟨q1, q2⟩ := foldl_min rest n
        have e1 := hle _ q1
        have e2 := q2 m hm
        have e3 : m = rest.foldl min n := by omega
        rw [e3]
        exact Post.val c p rfl
  · cases e
def dAll : List D → Option D
  | [.lst ds] => (blsD ds).map fun bs => .bl (bs.all id)
  | _ => none
theorem lift_all {M : Ms} {K : PySem.W.Frag} (hK : M.K = K) : LiftC M (rAll K) dAll := by
  subst hK
  intro B F env w σ H ds d vs Q c r e p
  unfold dAll at e
  split at e
  · rename_i ds
    cases h : blsD ds with
    | none => rw [h] at e; cases e
    | some ns =>
      rw [h] at e
      cases e
      obtain ⟨v, rfl, r0⟩ := r.one
      obtain ⟨a, xs, rfl, h1, r2⟩ := c.lst r0
      rw [blsD_rel h r2] at h1
      exact ⟨a, ns, rfl, .of h1, Post.val c p rfl⟩
  · cases e
def dAny : List D → Option D
  | [.lst ds] => (blsD ds).map fun bs => .bl (bs.any id)
  | _ => none
theorem lift_any {M : Ms} {K : PySem.W.Frag} (hK : M.K = K) : LiftC M (rAny K) dAny := by
  subst hK
  intro B F env w σ H ds d vs Q c r e p
  unfold dAny at e
  split at e
  · rename_i ds
    cases h : blsD ds with
    | none => rw [h] at e; cases e
    | some ns =>
      rw [h] at e
      cases e
      obtain ⟨v, rfl, r0⟩ := r.one
      obtain ⟨a, xs, rfl, h1, r2⟩ := c.lst r0
      rw [blsD_rel h r2] at h1
      exact ⟨a, ns, rfl, .of h1, Post.val c p rfl⟩
  · cases e
/-- sign in text -/
def dInS : D → D → Option D
  | .str i, .str j => some (.bl (!(Builtin.Str.occurrences j i 0 j.length 1).isEmpty))
  | _, _ => none
theorem lift_inS {M : Ms} : Lift2 M (fun x y H Q => ∃ i j, x = .str i ∧ y = .str j ∧ Q (.bl (!(Builtin.Str.occurrences j i 0 j.length 1).isEmpty)) H) dInS := by
  intro B F env w σ H dx dy d x y Q c rx ry e p
  unfold dInS at e
  split at e
  · cases e
    exact ⟨_, _, c.str rx, c.str ry, Post.val c p rfl⟩
  · cases e
end L3

set_option Elab.async false
set_option linter.all false
set_option maxRecDepth 100000
set_option maxHeartbeats 4000000
/-! L3Stmt: statements, targets, loops as plain functions. -/
namespace L3
open PySem PySem.Spec PyProof.Rows L2

inductive S3 where
  | nx (env : Env3) (w : Wd) | ct (env : Env3) (w : Wd) | bk (env : Env3) (w : Wd) | ret (d : D) (w : Wd) | bad
abbrev St3 := Env3 → Wd → S3
structure Mono (F : FS) (H : Hp) (F' : FS) (H' : Hp) : Prop where
  sub : Sub F F'
  ext : Ext F H H'
theorem Mono.refl {F : FS} {H : Hp} : Mono F H F H := ⟨fun _ h => h, fun _ _ _ h => h⟩
theorem Mono.trans {F F1 F2 : FS} {H H1 H2 : Hp} (a : Mono F H F1 H1) (b : Mono F1 H1 F2 H2) : Mono F H F2 H2 := ⟨fun c f => b.sub c (a.sub c f), fun c o f e => b.ext c o (a.sub c f) (a.ext c o f e)⟩
theorem Grow.mono {M : Ms} {F F' : FS} {H H' : Hp} {w' : Wd} (g : Grow M F H F' w' H') : Mono F H F' H' := ⟨g.sub, g.ext⟩
def PostS (M : Ms) (B : Bs) (F : FS) (H : Hp) (D0 : Ends) : S3 → Prop
  | .nx env w => ∀ F' σ' H', Cor M B F' env w σ' H' → Mono F H F' H' → D0.nx σ' H'
  | .ct env w => ∀ F' σ' H', Cor M B F' env w σ' H' → Mono F H F' H' → D0.ct σ' H'
  | .bk env w => ∀ F' σ' H', Cor M B F' env w σ' H' → Mono F H F' H' → D0.bk σ' H'
  | .ret d w => ∀ F' H' v, Gd M B F' w H' → Mono F H F' H' → RelD M F' H' d v → D0.rt v H'
  | .bad => False
theorem PostS.grow {M : Ms} {B : Bs} {F F1 : FS} {H H1 : Hp} {D0 : Ends} {r : S3} (m : Mono F H F1 H1) (p : PostS M B F H D0 r) : PostS M B F1 H1 D0 r := by
  cases r with
  | nx env w => exact fun F' σ' H' c m' => p F' σ' H' c (m.trans m')
  | ct env w => exact fun F' σ' H' c m' => p F' σ' H' c (m.trans m')
  | bk env w => exact fun F' σ' H' c m' => p F' σ' H' c (m.trans m')
  | ret d w => exact fun F' H' v g m' r => p F' H' v g (m.trans m') r
  | bad => exact p
def TS3 (M : Ms) (g : St3) : TS := fun D0 σ H => ∃ B F env w, Cor M B F env w σ H ∧ PostS M B F H D0 (g env w)

def snil : St3 := fun env w => .nx env w
def sseq (f g : St3) : St3 := fun env w => match f env w with
  | .nx e w' => g e w'
  | r => r
section
variable {X : Cx} {M : Ms} {B : Bs} {F : FS} {env : Env3} {w : Wd} {σ : Sl} {H : Hp} {D0 : Ends} {st : Stmt} {rest a b : List Stmt} {f g : St3} {e c : Expr} {pos : Pos} {fe : M3 D} {gc : M3 Bool}
theorem s3_nil : PSs X [] (TS3 M snil) := PSsi pss_nil fun D0 σ H h => by
  obtain ⟨B, F, env, w, c, p⟩ := h
  exact p F σ H c .refl
theorem s3_cons (h1 : PS X st (TS3 M f)) (h2 : PSs X rest (TS3 M g)) : PSs X (st :: rest) (TS3 M (sseq f g)) := by
  refine PSsi (pss_cons h1 h2) fun D0 σ H h => ?_
  obtain ⟨B, F, env, w, c, p⟩ := h
  refine ⟨B, F, env, w, c, ?_⟩
  unfold sseq at p
  cases ef : f env w with
  | nx e1 w1 =>
    rw [ef] at p
    exact fun F' σ' H' c' m' => ⟨B, F', e1, w1, c', p.grow m'⟩
  | ct e1 w1 => rw [ef] at p; exact p
  | bk e1 w1 => rw [ef] at p; exact p
  | ret d w1 => rw [ef] at p; exact p
  | bad => rw [ef] at p; exact p
theorem s3_one (h1 : PS X st (TS3 M f)) : PSs X [st] (TS3 M f) := pss_one h1
def sret (fe : M3 D) : St3 := fun env w => match fe env w with
  | .ok d w' => .ret d w'
  | .bad => .bad
theorem s3_ret (he : PE X e (T3 M fe)) : PS X (.Return (some e) pos) (TS3 M (sret fe)) := by
  refine PSi (ps_ret he) fun D0 σ H h => ?_
  obtain ⟨B, F, env, w, c, p⟩ := h
  refine ⟨B, F, env, w, c, ?_⟩
  unfold sret at p
  cases ef : fe env w with
  | bad => rw [ef] at p; exact p
  | ok d w' =>
    rw [ef] at p
    exact fun F' H' v g r => p F' H' v (c.gd.grow g) g.mono r
theorem s3_retN : PS X (.Return none pos) (TS3 M (sret (cst .non))) := by
  refine PSi ps_retN fun D0 σ H h => ?_
  obtain ⟨B, F, env, w, c, p⟩ := h
  exact p F H .non c.gd .refl rfl
def sdrop (fe : M3 D) : St3 := fun env w => match fe env w with
  | .ok _ w' => .nx env w'
  | .bad => .bad
theorem s3_expr (he : PE X e (T3 M fe)) (hs : swapsWith e none pos.line X.env = pure false := by rfl) : PS X (.Expr e pos) (TS3 M (sdrop fe)) := by
  refine PSi (ps_expr he hs) fun D0 σ H h => ?_
  obtain ⟨B, F, env, w, c, p⟩ := h
  refine ⟨B, F, env, w, c, ?_⟩
  unfold sdrop at p
  cases ef : fe env w with
  | bad => rw [ef] at p; exact p
  | ok d w' =>
    rw [ef] at p
    exact fun F' H' v g r => p F' σ H' (c.grow g) g.mono
def sif (gc : M3 Bool) (f g : St3) : St3 := fun env w => match gc env w with
  | .ok true w' => f env w'
  | .ok false w' => g env w'
  | .bad => .bad
theorem s3_if (hc : PT X c (T3t M gc)) (ha : PSs X a (TS3 M f)) (hb : PSs X b (TS3 M g)) : PS X (.If c a b pos) (TS3 M (sif gc f g)) := by
  refine PSi (ps_if hc ha hb) fun D0 σ H h => ?_
  obtain ⟨B, F, env, w, c, p⟩ := h
  refine ⟨B, F, env, w, c, ?_⟩
  unfold sif at p
  cases ef : gc env w with
  | bad => rw [ef] at p; exact p
  | ok k w' =>
    rw [ef] at p
    intro F' H' gr
    cases k with
    | true =>
      rw [if_pos rfl]
      exact ⟨B, F', env, w', c.grow gr, PostS.grow gr.mono p⟩
    | false =>
      rw [if_neg Bool.false_ne_true]
      exact ⟨B, F', env, w', c.grow gr, PostS.grow gr.mono p⟩
theorem s3_pass : PS X (.Pass pos) (TS3 M snil) := PSi ps_pass fun D0 σ H h => by
  obtain ⟨B, F, env, w, c, p⟩ := h
  exact p F σ H c .refl
theorem s3_break : PS X (.Break pos) (TS3 M fun env w => .bk env w) := PSi ps_break fun D0 σ H h => by
  obtain ⟨B, F, env, w, c, p⟩ := h
  exact p F σ H c .refl
theorem s3_continue : PS X (.Continue pos) (TS3 M fun env w => .ct env w) := PSi ps_continue fun D0 σ H h => by
  obtain ⟨B, F, env, w, c, p⟩ := h
  exact p F σ H c .refl
end

/-! ### targets -/
abbrev G3 := D → Env3 → Option Env3
abbrev G3s := List D → Env3 → Option Env3
/-- outside vs nothing was stored -/
structure Outs (vs : List Nat) (σ σ' : Sl) : Prop where
  len : σ'.length = σ.length
  out : ∀ j : Nat, j ∉ vs → σ'[j]? = σ[j]?
theorem Outs.refl {vs : List Nat} {σ : Sl} : Outs vs σ σ := ⟨rfl, fun _ _ => rfl⟩
theorem Outs.trans {vs us : List Nat} {σ σ1 σ2 : Sl} (a : Outs vs σ σ1) (b : Outs us σ1 σ2) : Outs (vs ++ us) σ σ2 := ⟨b.len.trans a.len, fun j h => by
  simp only [List.mem_append, not_or] at h
  exact (b.out j h.2).trans (a.out j h.1)⟩
theorem Outs.set {σ : Sl} {i : Nat} {v : Option V} : Outs [i] σ (σ.set i v) := ⟨by simp, fun j h => by
  simp only [List.mem_singleton] at h
  rw [List.getElem?_set_ne (fun z => h z.symm)]⟩
def T3g (M : Ms) (g : G3) (vs : List Nat) : TG := fun v σ H Q => ∃ B F env w d, Cor M B F env w σ H ∧ RelD M F H d v ∧ match g d env with
  | some env' => ∀ σ', Cor M B F env' w σ' H → Outs vs σ σ' → Q σ' H
  | none => False
def T3gs (M : Ms) (g : G3s) (vs : List Nat) : TGs := fun us σ H Q => ∃ B F env w ds, Cor M B F env w σ H ∧ RelDs M F H ds us ∧ match g ds env with
  | some env' => ∀ σ', Cor M B F env' w σ' H → Outs vs σ σ' → Q σ' H
  | none => False
theorem PGi {X : Cx} {e : Expr} {t t' : TG} (h : PG X e t) (i : ∀ v σ H Q, t' v σ H Q → t v σ H Q) : PG X e t' := ⟨fun pins s σ H v u Q I r q => h.run pins s σ H v u Q I r (i _ _ _ _ q)⟩
theorem PGsi {X : Cx} {e : List Expr} {t t' : TGs} (h : PGs X e t) (i : ∀ v σ H Q, t' v σ H Q → t v σ H Q) : PGs X e t' := ⟨fun pins s σ H v u Q I r q => h.run pins s σ H v u Q I r (i _ _ _ _ q)⟩
def gn (i : Nat) : G3 := fun d env => if i < env.length then some (env.set i (some (false, d))) else none
theorem Cor.setF {M : Ms} {B : Bs} {F : FS} {env : Env3} {w : Wd} {σ : Sl} {H : Hp} {d : D} {v : V} (c : Cor M B F env w σ H) (r : RelD M F H d v) (i : Nat) : Cor M B F (env.set i (some (false, d))) w (σ.set i (some v)) H where
  gd := c.gd
  len := by simp [c.len]
  fro := fun j e h => by
    by_cases ij : i = j
    · subst ij
      have hi : i < env.length := by
        have := (List.getElem?_eq_some_iff.mp h).1
        simpa using this
      rw [List.getElem?_set_self hi] at h
      cases h
      exact ⟨v, List.getElem?_set_self (by rw [c.len]; exact hi), r⟩
    · rw [List.getElem?_set_ne ij] at h
      rw [List.getElem?_set_ne ij]
      exact c.fro j e h
  own := fun j e h => by
    by_cases ij : i = j
    · subst ij
      have hi : i < env.length := by
        have := (List.getElem?_eq_some_iff.mp h).1
        simpa using this
      rw [List.getElem?_set_self hi] at h
      cases h
    · rw [List.getElem?_set_ne ij] at h
      rw [List.getElem?_set_ne ij]
      exact c.own j e h
  sep := fun j k e f u h1 h2 h3 h4 => by
    by_cases ij : i = j
    · subst ij
      have hi : i < env.length := by
        have := (List.getElem?_eq_some_iff.mp h1).1
        simpa using this
      rw [List.getElem?_set_self hi] at h1
      cases h1
    · by_cases ik : i = k
      · subst ik
        have hi : i < env.length := by
          have := (List.getElem?_eq_some_iff.mp h2).1
          simpa using this
        rw [List.getElem?_set_self hi] at h2
        cases h2
      · rw [List.getElem?_set_ne ij] at h1 h3
        rw [List.getElem?_set_ne ik] at h2 h4
        exact c.sep j k e f u h1 h2 h3 h4
section
variable {X : Cx} {M : Ms} {B : Bs} {F : FS} {env : Env3} {w : Wd} {σ : Sl} {H : Hp} {D0 : Ends} {pos : Pos} {e tg : Expr} {es : List Expr} {fe : M3 D} {g : G3} {gs : G3s} {f : St3}
theorem g3_name (i : Nat) {x : Str} (hN : X.N.Nodup) (hi : X.N[i]? = some x := by rfl) (hx : Loc X.env.scope x := by first | exact Or.inl rfl | exact Or.inr rfl) (hf : X.fn x = true ∨ X.env.scope.names.lookup x = some .local := by first | exact .inl rfl | exact .inr rfl | assumption) :
    PG X (.Name x pos) (T3g M (gn i) [i]) := by
  refine PGi (pg_name hN hi hx hf) fun v σ H Q h => ?_
  obtain ⟨B, F, env, w, d, c, r, p⟩ := h
  unfold gn at p
  split at p
  · rename_i env' e
    split at e
    · cases e
      exact p _ (c.setF r i) .set
    · cases e
  · exact p.elim
def gnil : G3s := fun ds env => match ds with
  | [] => some env
  | _ => none
def gcons (g : G3) (gs : G3s) : G3s := fun ds env => match ds with
  | d :: r => (g d env).bind fun e => gs r e
  | [] => none
theorem g3_nil : PGs X [] (T3gs M gnil []) := PGsi pgs_nil fun v σ H Q h => by
  obtain ⟨B, F, env, w, ds, c, r, p⟩ := h
  cases ds with
  | nil => exact ⟨r, p σ c .refl⟩
  | cons d r => exact p.elim
theorem g3_cons {vs us : List Nat} (h1 : PG X e (T3g M g vs)) (h2 : PGs X es (T3gs M gs us)) (hs : (assignEach (e :: es) X.env).map (·.2) = assign e X.env :: (assignEach es X.env).map (·.2) := by rfl) : PGs X (e :: es) (T3gs M (gcons g gs) (vs ++ us)) := by
  refine PGsi (pgs_cons h1 h2 hs) fun v σ H Q h => ?_
  obtain ⟨B, F, env, w, ds, c, r, p⟩ := h
  cases ds with
  | nil => exact p.elim
  | cons d ds =>
    obtain ⟨x, xs, rfl, r1, r2⟩ := r
    unfold gcons at p
    dsimp only at p
    refine ⟨x, xs, rfl, B, F, env, w, d, c, r1, ?_⟩
    cases eg : g d env with
    | none => rw [eg] at p; exact p.elim
    | some e1 =>
      rw [eg] at p
      dsimp only [Option.bind] at p
      intro σ' c' o'
      refine ⟨B, F, e1, w, ds, c', r2, ?_⟩
      cases eg2 : gs ds e1 with
      | none => rw [eg2] at p; exact p.elim
      | some e2 =>
        rw [eg2] at p
        exact fun σ2 c2 o2 => p σ2 c2 (o'.trans o2)
def gtup (n : Nat) (gs : G3s) : G3 := fun d env => match d with
  | .tup ds => if ds.length = n then gs ds env else none
  | _ => none
theorem g3_tup {k n : Nat} {vs : List Nat} (hc : X.calm = true) (h : PGs X es (T3gs M gs vs)) (hK : M.K = X.K := by rfl) (hn : (assignEach es X.env).length = n := by rfl) (hst : (assignEach es X.env).findIdx? (·.1) = none := by rfl) : PG X (.Tuple es k pos) (T3g M (gtup n gs) vs) := by
  refine PGi (pg_tup hc h hn hst) fun v σ H Q h => ?_
  obtain ⟨B, F, env, w, d, c, r, p⟩ := h
  unfold gtup at p
  cases d with
  | tup ds =>
    obtain ⟨a, xs, rfl, q, r⟩ := r
    dsimp only at p
    by_cases hl : ds.length = n
    · rw [if_pos hl] at p
      exact ⟨a, xs, rfl, by rw [← hK]; exact q.sq, by rw [← r.length]; exact hl, B, F, env, w, ds, c, r, p⟩
    · rw [if_neg hl] at p
      exact p.elim
  | _ => exact p.elim
def sasg (fe : M3 D) (g : G3) : St3 := fun env w => match fe env w with
  | .ok d w' => match g d env with
    | some e => .nx e w'
    | none => .bad
  | .bad => .bad
theorem ts_asg {vs : List Nat} : ∀ D0 σ H, TS3 M (sasg fe g) D0 σ H → tAsg (T3 M fe) (T3g M g vs) D0 σ H := fun D0 σ H h => by
  obtain ⟨B, F, env, w, c, p⟩ := h
  refine ⟨B, F, env, w, c, ?_⟩
  unfold sasg at p
  cases ef : fe env w with
  | bad => rw [ef] at p; exact p
  | ok d w' =>
    rw [ef] at p
    dsimp only at p
    intro F' H' v gr r
    refine ⟨B, F', env, w', d, c.grow gr, r, ?_⟩
    cases eg : g d env with
    | none => rw [eg] at p; exact p
    | some e1 =>
      rw [eg] at p
      exact fun σ2 c2 _ => p F' σ2 H' c2 gr.mono
theorem s3_asg {vs : List Nat} (he : PE X e (T3 M fe)) (hg : PG X tg (T3g M g vs)) (hs : swapsWithSole [tg] e pos.line X.env = pure false := by rfl) (hw : swappedStores [tg] e X.env = pure none := by rfl)
    (h1 : (assignEach [tg] X.env).map (·.2) = [assign tg X.env] := by rfl) : PS X (.Assign [tg] e pos) (TS3 M (sasg fe g)) := PSi (ps_asg he hg hs hw h1) ts_asg
/-- x = e -/
theorem s3_set (i : Nat) {x : Str} {pos' : Pos} (hN : X.N.Nodup) (he : PE X e (T3 M fe)) (hi : X.N[i]? = some x := by rfl) (hx : Loc X.env.scope x := by first | exact Or.inl rfl | exact Or.inr rfl) (hs : swapsWith e (some (.Name x pos')) pos.line X.env = pure false := by rfl)
    (hf : X.fn x = true ∨ X.env.scope.names.lookup x = some .local := by first | exact .inl rfl | exact .inr rfl | assumption) : PS X (.Assign [.Name x pos'] e pos) (TS3 M (sasg fe (gn i))) := by
  refine PSi (ps_set hN hi hx he hs hf) fun D0 σ H h => ?_
  refine T3.mono (ts_asg (g := gn i) (vs := [i]) D0 σ H h) fun v H1 h1 => ?_
  obtain ⟨B, F, env, w, d, c, r, p⟩ := h1
  unfold gn at p
  split at p
  · rename_i env' e
    split at e
    · cases e
      exact p _ (c.setF r i) .set
    · cases e
  · exact p.elim
/-- x, y = a, b -/
def spar (i j : Nat) (fs : M3 (List D)) : St3 := fun env w => match fs env w with
  | .ok [a, b] w' => if i < env.length ∧ j < env.length then .nx ((env.set i (some (false, a))).set j (some (false, b))) w' else .bad
  | _ => .bad
theorem s3_par (i j : Nat) {x y : Str} {a b : Expr} {fs : M3 (List D)} {px py pt : Pos} {kt k2 pt2} (hc : X.calm = true) (hN : X.N.Nodup) (ha : PA X [a, b] (T3a M fs)) (hi : X.N[i]? = some x := by rfl) (hj : X.N[j]? = some y := by rfl) (hij : i ≠ j := by decide)
    (hx : X.env.scope.names.lookup x = some .local := by rfl) (hy : X.env.scope.names.lookup y = some .local := by rfl)
    (hw : swappedStores [.Tuple [.Name x px, .Name y py] kt pt] (.Tuple [a, b] k2 pt2) X.env = pure (some [x, y]) := by rfl)
    (hs : swapsWithSole [.Tuple [.Name x px, .Name y py] kt pt] (.Tuple [a, b] k2 pt2) pos.line X.env = pure false := by rfl) :
    PS X (.Assign [.Tuple [.Name x px, .Name y py] kt pt] (.Tuple [a, b] k2 pt2) pos) (TS3 M (spar i j fs)) := by
  refine PSi (ps_par hc hN hi hj hij hx hy ha hw hs) fun D0 σ H h => ?_
  obtain ⟨B, F, env, w, c, p⟩ := h
  refine ⟨B, F, env, w, c, ?_⟩
  unfold spar at p
  cases ef : fs env w with
  | bad => rw [ef] at p; exact p
  | ok ds w' =>
    rw [ef] at p
    intro F' H' vs gr r
    match ds, r, p with
    | [a, b], r, p =>
      obtain ⟨v, us, rfl, r1, u, us2, rfl, r2, z⟩ := r
      have z : us2 = [] := z
      subst z
      refine ⟨v, u, rfl, ?_⟩
      dsimp only at p
      split at p
      · exact p F' _ H' (((c.grow gr).setF r1 i).setF r2 j) gr.mono
      · exact p.elim
    | [], _, p => exact p.elim
    | [_], _, p => exact p.elim
    | _ :: _ :: _ :: _, _, p => exact p.elim
/-- x op= e on a frozen slot: values by g -/
def saug (i : Nat) (g : D → D → Option D) (fe : M3 D) : St3 := sasg (m2 g (evar i) fe) (gn i)
theorem s3_aug (i : Nat) {x : Str} {op : Operator} {r : R2} {gg : D → D → Option D} {pos' : Pos} (hN : X.N.Nodup) (he : PE X e (T3 M fe)) (ho : OpR X (inplaceOp op) r) (l : Lift2 M r gg) (hi : X.N[i]? = some x := by rfl) (hx : Loc X.env.scope x := by first | exact Or.inl rfl | exact Or.inr rfl)
    (hf : X.fn x = true ∨ X.env.scope.names.lookup x = some .local := by first | exact .inl rfl | exact .inr rfl | assumption) : PS X (.AugAssign (.Name x pos') op e pos) (TS3 M (saug i gg fe)) := by
  refine PSi (ps_aug (ti := r) hN hi hx he (fun pins s σ H x y v u Q I r1 r2 h => ho pins s σ H x y v u Q I r1 r2 h) hf) fun D0 σ H h => ?_
  obtain ⟨B, F, env, w, c, p⟩ := h
  unfold saug sasg m2 M3.bind at p
  cases e0 : evar i env w with
  | bad => rw [e0] at p; exact p.elim
  | ok d0 w0 =>
    rw [e0] at p
    unfold evar at e0
    split at e0
    · rename_i d1 hd
      cases e0
      obtain ⟨v, hv, r0⟩ := c.fro i _ hd
      dsimp only at p
      refine ⟨v, hv, B, F, env, w, c, ?_⟩
      cases ef : fe env w with
      | bad => rw [ef] at p; exact p.elim
      | ok d2 w2 =>
        rw [ef] at p
        intro F' H' u gr r2
        unfold M3.opt at p
        dsimp only at p
        cases eg : gg d0 d2 with
        | none => rw [eg] at p; exact p.elim
        | some d3 =>
          rw [eg] at p
          dsimp only at p
          refine l B F' env w2 σ H' d0 d2 d3 v u _ (c.grow gr) (.inl (RelD.mono gr.sub gr.ext _ _ r0)) (.inl r2) eg ?_
          intro F2 H2 z g2 r3
          unfold gn at p
          split at p
          · rename_i env' ee
            split at ee
            · cases ee
              exact p F2 _ H2 (((c.grow gr).grow g2).setF r3 i) (gr.trans g2).mono
            · cases ee
          · exact p.elim
    · cases e0
end

/-! ### while -/
def swhile (c : M3 Bool) (b : St3) : Nat → St3
  | 0 => fun _ _ => .bad
  | n + 1 => fun env w => match c env w with
    | .ok true w' => match b env w' with
      | .nx e w2 => swhile c b n e w2
      | .ct e w2 => swhile c b n e w2
      | .bk e w2 => .nx e w2
      | .ret d w2 => .ret d w2
      | .bad => .bad
    | .ok false w' => .nx env w'
    | .bad => .bad
section
variable {X : Cx} {M : Ms} {c : Expr} {body : List Stmt} {gc : M3 Bool} {f : St3} {pos : Pos}
theorem s3_while (n : Nat) (hp : PassesOwn (model X.prog X.w) X.A X.env X.xe) (hc : PT X c (T3t M gc)) (hb : PSs X body (TS3 M f)) : PS X (.While c body [] pos) (TS3 M (swhile gc f n)) := by
  refine PSi (ps_while hp hc hb) fun D0 σ H h => ?_
  obtain ⟨B, F0, env0, w0, c0, p0⟩ := h
  refine ⟨fun m σ H => ∃ F env w, Cor M B F env w σ H ∧ PostS M B F H D0 (swhile gc f m env w), ⟨n, F0, env0, w0, c0, p0⟩, ?_⟩
  rintro m σ H ⟨F, env, w, c, p⟩
  cases m with
  | zero => exact p.elim
  | succ m =>
    unfold swhile at p
    refine ⟨B, F, env, w, c, ?_⟩
    cases ec : gc env w with
    | bad => rw [ec] at p; exact p
    | ok k w1 =>
      rw [ec] at p
      intro F1 H1 g1
      have c1 := c.grow g1
      cases k with
      | false =>
        rw [if_neg Bool.false_ne_true]
        exact p F1 σ H1 c1 g1.mono
      | true =>
        rw [if_pos rfl]
        dsimp only at p
        refine ⟨fun σ' H' => ∃ F env w, Cor M B F env w σ' H' ∧ PostS M B F H' D0 (swhile gc f m env w), fun σ' H' h => ⟨m, Nat.lt_succ_self m, h⟩, B, F1, env, w1, c1, ?_⟩
        cases ef : f env w1 with
        | nx e2 w2 =>
          rw [ef] at p
          exact fun F' σ' H' c' m' => ⟨F', e2, w2, c', p.grow (g1.mono.trans m')⟩
        | ct e2 w2 =>
          rw [ef] at p
          exact fun F' σ' H' c' m' => ⟨F', e2, w2, c', p.grow (g1.mono.trans m')⟩
        | bk e2 w2 =>
          rw [ef] at p
          exact fun F' σ' H' c' m' => p F' σ' H' c' (g1.mono.trans m')
        | ret d w2 =>
          rw [ef] at p
          exact fun F' H' v g m' r => p F' H' v g (g1.mono.trans m') r
        | bad => rw [ef] at p; exact p
end

/-! ### what a loop walks -/
def ItOk (M : Ms) (F0 : FS) (H0 : Hp) (J : It) (ds : List D) : Prop := ∀ (i : Nat) (F : FS) (H : Hp) (w : Wd), Mono F0 H0 F H → (∀ b, F b → H b ≠ none) → WRel M F w H →
  (ds.length ≤ i → J.stop i H) ∧ ∀ d, ds[i]? = some d → J.go i H ∧ ∀ x H', J.yld i H x H' → ∃ F', Grow M F H F' w H' ∧ RelD M F' H' d x
def T3i (M : Ms) (f : M3 (List D)) : TI := fun σ H R => ∃ B F env w, Cor M B F env w σ H ∧ match f env w with
  | .ok ds w' => ∀ F' H' J, Grow M F H F' w' H' → ItOk M F' H' J ds → R J H'
  | .bad => False
theorem PIi {X : Cx} {tg e : Expr} {t t' : TI} (h : PI X tg e t) (i : ∀ σ H R, t' σ H R → t σ H R) : PI X tg e t' := ⟨fun pins s σ H R I q => h.run pins s σ H R I (i _ _ _ q)⟩
def iseq (f : M3 D) : M3 (List D) := f.bind fun d => match d with
  | .lst ds => M3.ret ds
  | _ => fun _ _ => .bad
def itup (f : M3 D) : M3 (List D) := f.bind fun d => match d with
  | .tup ds => M3.ret ds
  | _ => fun _ _ => .bad
def irng1 (f : M3 (List D)) : M3 (List D) := f.bind fun ds => match ds with
  | [.int j] => if -(2 ^ 62) ≤ j ∧ j < 2 ^ 62 then M3.ret ((List.range j.toNat).map fun i : Nat => .int i) else fun _ _ => .bad
  | _ => fun _ _ => .bad
def irng2 (f : M3 (List D)) : M3 (List D) := f.bind fun ds => match ds with
  | [.int i, .int j] => if -(2 ^ 62) ≤ i ∧ i < 2 ^ 62 ∧ -(2 ^ 62) ≤ j ∧ j < 2 ^ 62 then M3.ret ((List.range (j - i).toNat).map fun k : Nat => .int (i + k)) else fun _ _ => .bad
  | _ => fun _ _ => .bad
section
variable {X : Cx} {M : Ms} {tg e : Expr} {f : M3 D}
theorem t3i_of {M : Ms} {f : M3 D} {k : D → M3 (List D)} {P : V → Hp → Prop} {R : It → Hp → Prop} {σ : Sl} {H : Hp} (h : T3i M (f.bind k) σ H R)
    (i : ∀ B F env w d v H1, Cor M B F env w σ H1 → RelD M F H1 d v → (match k d env w with | .ok ds w' => ∀ F' H' J, Grow M F H1 F' w' H' → ItOk M F' H' J ds → R J H' | .bad => False) → P v H1) : T3 M f σ H P := by
  obtain ⟨B, F, env, w, c, p⟩ := h
  refine ⟨B, F, env, w, c, ?_⟩
  unfold M3.bind at p
  cases ef : f env w with
  | bad => rw [ef] at p; exact p
  | ok d w1 =>
    rw [ef] at p
    intro F1 H1 v g1 r1
    refine i B F1 env w1 d v H1 (c.grow g1) r1 ?_
    dsimp only at p
    cases ek : k d env w1 with
    | bad => rw [ek] at p; exact p
    | ok ds w2 =>
      rw [ek] at p
      exact fun F' H' J g hJ => p F' H' J (g1.trans g) hJ
theorem i3_lst (he : PE X e (T3 M f)) (hK : M.K = X.K := by rfl) : PI X tg e (T3i M (iseq f)) := by
  refine PIi (pi_list he) fun σ H R h => ?_
  refine t3i_of h fun B F env w d v H1 c r p => ?_
  cases d with
  | lst ds =>
    obtain ⟨a, xs, rfl, q, r⟩ := r
    refine ⟨a, rfl, ⟨xs, .of q.2⟩, p F H1 _ c.self fun i F2 H2 w2 m _ _ => ?_⟩
    have h2 := q.mono m.sub m.ext
    have sq : SqL X.K H2 a xs := .of h2.2
    refine ⟨fun hl => ⟨xs, sq, by rw [← r.length]; exact hl⟩, fun d hd => ?_⟩
    obtain ⟨x, hx, rx⟩ := r.get hd
    refine ⟨⟨xs, x, sq, hx⟩, fun y H' ⟨e1, hy⟩ => ?_⟩
    subst e1
    have := hy xs sq
    rw [hx] at this
    cases this
    rename_i hd2 hw2 _
    exact ⟨F2, .refl hd2 hw2, RelD.mono m.sub m.ext _ _ rx⟩
  | _ => exact p.elim
theorem i3_tup (he : PE X e (T3 M f)) (hK : M.K = X.K := by rfl) : PI X tg e (T3i M (itup f)) := by
  refine PIi (pi_tup he) fun σ H R h => ?_
  refine t3i_of h fun B F env w d v H1 c r p => ?_
  cases d with
  | tup ds =>
    obtain ⟨a, xs, rfl, q, r⟩ := r
    refine ⟨a, rfl, ⟨xs, by rw [← hK]; exact q.sq⟩, p F H1 _ c.self fun i F2 H2 w2 m _ _ => ?_⟩
    have h2 := q.mono m.sub m.ext
    have sq : SqT X.K H2 a xs := by rw [← hK]; exact h2.sq
    refine ⟨fun hl => ⟨xs, sq, by rw [← r.length]; exact hl⟩, fun d hd => ?_⟩
    obtain ⟨x, hx, rx⟩ := r.get hd
    refine ⟨⟨xs, x, sq, hx⟩, fun y H' ⟨e1, hy⟩ => ?_⟩
    subst e1
    have := hy xs sq
    rw [hx] at this
    cases this
    rename_i hd2 hw2 _
    exact ⟨F2, .refl hd2 hw2, RelD.mono m.sub m.ext _ _ rx⟩
  | _ => exact p.elim
theorem t3i_ofA {M : Ms} {f : M3 (List D)} {k : List D → M3 (List D)} {P : List V → Hp → Prop} {R : It → Hp → Prop} {σ : Sl} {H : Hp} (h : T3i M (f.bind k) σ H R)
    (i : ∀ B F env w d v H1, Cor M B F env w σ H1 → RelDs M F H1 d v → (match k d env w with | .ok ds w' => ∀ F' H' J, Grow M F H1 F' w' H' → ItOk M F' H' J ds → R J H' | .bad => False) → P v H1) : T3a M f σ H P := by
  obtain ⟨B, F, env, w, c, p⟩ := h
  refine ⟨B, F, env, w, c, ?_⟩
  unfold M3.bind at p
  cases ef : f env w with
  | bad => rw [ef] at p; exact p
  | ok d w1 =>
    rw [ef] at p
    intro F1 H1 v g1 r1
    refine i B F1 env w1 d v H1 (c.grow g1) r1 ?_
    dsimp only at p
    cases ek : k d env w1 with
    | bad => rw [ek] at p; exact p
    | ok ds w2 =>
      rw [ek] at p
      exact fun F' H' J g hJ => p F' H' J (g1.trans g) hJ
theorem itr_ok {F : FS} {H : Hp} {lo : Int} {n : Nat} : ItOk M F H (Itr lo n) ((List.range n).map fun k : Nat => .int (lo + k)) := by
  intro i F2 H2 w2 m hd hw
  refine ⟨fun hl => by show n ≤ i; simpa using hl, fun d e => ?_⟩
  rw [List.getElem?_map] at e
  cases h : (List.range n)[i]? with
  | none => rw [h] at e; cases e
  | some k =>
    rw [h] at e
    cases e
    obtain ⟨h1, h2⟩ := List.getElem?_eq_some_iff.mp h
    have h3 : k = i := by rw [← h2]; simp
    subst h3
    refine ⟨by show k < n; simpa using h1, fun x H' ⟨e1, e2⟩ => ?_⟩
    subst e1
    exact ⟨F2, .refl hd hw, e2⟩
theorem i3_rng1 {a : Expr} {fs : M3 (List D)} {p pos : Pos} (hg : Gl X "range") (hm : X.mg "range" = none) (ha : PA X [a] (T3a M fs)) (hs : starEach [a] X.env = [(false, eval a X.env)] := by rfl) : PI X tg (.Call (.Name "range" p) [a] [] pos) (T3i M (irng1 fs)) := by
  refine PIi (pi_range1 hg hm ha hs) fun σ H R h => ?_
  refine t3i_ofA h fun B F env w ds v H1 c r p => ?_
  split at p
  · rename_i ds' w' ep
    split at ep
    · rename_i j
      obtain ⟨u, us, rfl, r1, z⟩ := r
      have z : us = [] := z
      subst z
      split at ep
      · rename_i hj
        cases ep
        refine ⟨j, by rw [show u = V.int j from r1], hj.1, hj.2, p F H1 _ c.self ?_⟩
        have := itr_ok (M := M) (F := F) (H := H1) (lo := 0) (n := j.toNat)
        simpa using this
      · cases ep
    · cases ep
  · exact p.elim
end
end L3

set_option Elab.async false
set_option linter.all false
set_option maxRecDepth 100000
set_option maxHeartbeats 4000000
/-! L3Loop: for, list comprehensions, owned lists. -/
namespace L3
open PySem PySem.Spec PyProof.Rows L2

def forL (g : G3) (b : St3) : List D → St3
  | [] => fun env w => .nx env w
  | d :: ds => fun env w => match g d env with
    | none => .bad
    | some e => match b e w with
      | .nx e2 w2 => forL g b ds e2 w2
      | .ct e2 w2 => forL g b ds e2 w2
      | .bk e2 w2 => .nx e2 w2
      | .ret d w2 => .ret d w2
      | .bad => .bad
def sfor (f : M3 (List D)) (g : G3) (b : St3) : St3 := fun env w => match f env w with
  | .ok ds w' => forL g b ds env w'
  | .bad => .bad
theorem PostS.nx_of {M : Ms} {B : Bs} {F : FS} {H : Hp} {D0 : Ends} {e : Env3} {w : Wd} {F' : FS} {σ' : Sl} {H' : Hp} (p : PostS M B F H D0 (.nx e w)) (c : Cor M B F' e w σ' H') (m : Mono F H F' H') : D0.nx σ' H' := p F' σ' H' c m
section
variable {X : Cx} {M : Ms} {tg iter : Expr} {body : List Stmt} {f : M3 (List D)} {g : G3} {b : St3} {pos : Pos}
theorem s3_for (hp : PassesOwn (model X.prog X.w) X.A X.env X.xe) (hc : X.calm = true) (hi : PI X tg iter (T3i M f)) {vs : List Nat} (hg : PG X tg (T3g M g vs)) (hb : PSs X body (TS3 M b)) (hs : ∀ x, foldedSetIterable iter X.env x = pure x := by intro _; rfl) :
    PS X (.For tg iter body [] pos) (TS3 M (sfor f g b)) := by
  refine PSi (ps_for hp hc hi hg hb hs) fun D0 σ H h => ?_
  obtain ⟨B, F0, env0, w0, c0, p0⟩ := h
  refine ⟨B, F0, env0, w0, c0, ?_⟩
  unfold sfor at p0
  cases ef : f env0 w0 with
  | bad => rw [ef] at p0; exact p0
  | ok ds w1 =>
    rw [ef] at p0
    intro F1 H1 J g1 ok
    have c1 := c0.grow g1
    have p1 : PostS M B F1 H1 D0 (forL g b ds env0 w1) := PostS.grow g1.mono p0
    refine ⟨fun i m σ H => i ≤ ds.length ∧ m = ds.length - i ∧ ∃ F env w, Cor M B F env w σ H ∧ Mono F1 H1 F H ∧ PostS M B F H D0 (forL g b (ds.drop i) env w),
      ⟨ds.length, Nat.zero_le _, rfl, F1, env0, w1, c1, .refl, by rw [List.drop_zero]; exact p1⟩, ?_⟩
    rintro i m σ H ⟨hi, rfl, F, env, w, c, m1, p⟩
    have it := ok i F H w m1 c.gd.dom c.gd.world
    by_cases hlt : i < ds.length
    · refine .inr ?_
      obtain ⟨go, yl⟩ := it.2 ds[i] (List.getElem?_eq_getElem hlt)
      refine ⟨go, fun σ' H' => ∃ F' env' w', Cor M B F' env' w' σ' H' ∧ Mono F1 H1 F' H' ∧ PostS M B F' H' D0 (forL g b (ds.drop (i + 1)) env' w'), fun σ' H' h => ⟨ds.length - (i + 1), by omega, hlt, rfl, h⟩, fun x H' hy => ?_⟩
      obtain ⟨F', gr, r⟩ := yl x H' hy
      have c' := c.grow gr
      have p' := PostS.grow gr.mono p
      have hd : ds.drop i = ds[i] :: ds.drop (i + 1) := List.drop_eq_getElem_cons hlt
      rw [hd] at p'
      unfold forL at p'
      refine ⟨B, F', env, w, ds[i], c', r, ?_⟩
      cases eg : g ds[i] env with
      | none => rw [eg] at p'; exact p'
      | some e2 =>
        rw [eg] at p'
        intro σ2 c2 _
        have m2 : Mono F' H' F' H' := .refl
        refine ⟨B, F', e2, w, c2, ?_⟩
        dsimp only at p'
        cases eb : b e2 w with
        | nx e3 w3 =>
          rw [eb] at p'
          exact fun F3 σ3 H3 c3 m3 => ⟨F3, e3, w3, c3, m1.trans (gr.mono.trans (m2.trans m3)), p'.grow (m2.trans m3)⟩
        | ct e3 w3 =>
          rw [eb] at p'
          exact fun F3 σ3 H3 c3 m3 => ⟨F3, e3, w3, c3, m1.trans (gr.mono.trans (m2.trans m3)), p'.grow (m2.trans m3)⟩
        | bk e3 w3 =>
          rw [eb] at p'
          exact fun F3 σ3 H3 c3 m3 => p'.nx_of c3 (m2.trans m3)
        | ret d w3 =>
          rw [eb] at p'
          exact PostS.grow (r := .ret d w3) m2 p'
        | bad => rw [eb] at p'; exact p'
    · refine .inl ⟨it.1 (by omega), ?_⟩
      have hd : ds.drop i = [] := List.drop_eq_nil_of_le (by omega)
      rw [hd] at p
      exact p F σ H c .refl
end

/-! ### list comprehensions -/
/-- the comprehension's own names have no value ahead of each turn -/
def wipeE (env : Env3) : List Nat → Env3
  | [] => env
  | i :: r => wipeE (env.set i none) r
def lcL (g : G3) (t : M3 Bool) (f : M3 D) (vs : List Nat) : List D → Env3 → Wd → List D → R3 (List D)
  | [], _, w, acc => .ok acc w
  | d :: ds, env, w, acc => match g d (wipeE env vs) with
    | none => .bad
    | some e => match t e w with
      | .bad => .bad
      | .ok false w2 => lcL g t f vs ds env w2 acc
      | .ok true w2 => match f e w2 with
        | .bad => .bad
        | .ok x w3 => if acc.length < SL then lcL g t f vs ds env w3 (acc ++ [x]) else .bad
def mlc (it : M3 (List D)) (g : G3) (t : M3 Bool) (f : M3 D) (vs : List Nat) : M3 D := fun env w => match it env w with
  | .bad => .bad
  | .ok ds w' => match lcL g t f vs ds env w' [] with
    | .bad => .bad
    | .ok xs w2 => .ok (.lst xs) w2
theorem wipeE_length : ∀ (vs : List Nat) (env : Env3), (wipeE env vs).length = env.length
  | [], env => rfl
  | i :: r, env => by
    show (wipeE (env.set i none) r).length = env.length
    rw [wipeE_length r]; simp
theorem wipeE_some : ∀ (vs : List Nat) (env : Env3) (j : Nat) (d : Bool × D), (wipeE env vs)[j]? = some (some d) → env[j]? = some (some d) ∧ j ∉ vs
  | [], env, j, d, h => ⟨h, by simp⟩
  | i :: r, env, j, d, h => by
    have h : (wipeE (env.set i none) r)[j]? = some (some d) := h
    obtain ⟨h1, h2⟩ := wipeE_some r _ j d h
    by_cases ij : i = j
    · subst ij
      have hi : i < env.length := by
        have := (List.getElem?_eq_some_iff.mp h1).1
        simpa using this
      rw [List.getElem?_set_self hi] at h1
      cases h1
    · rw [List.getElem?_set_ne ij] at h1
      exact ⟨h1, by simp only [List.mem_cons, not_or]; exact ⟨fun z => ij z.symm, h2⟩⟩
theorem wipe_ne : ∀ (vs : List Nat) (σ : Sl) (j : Nat), j ∉ vs → (wipe σ vs)[j]? = σ[j]?
  | [], σ, j, _ => rfl
  | i :: r, σ, j, h => by
    simp only [List.mem_cons, not_or] at h
    show ((L2.wipe σ r).set i none)[j]? = σ[j]?
    rw [List.getElem?_set_ne (fun z => h.1 z.symm), wipe_ne r _ j h.2]
theorem Cor.wipe {M : Ms} {B : Bs} {F : FS} {env : Env3} {w : Wd} {σ : Sl} {H : Hp} (c : Cor M B F env w σ H) (vs : List Nat) : Cor M B F (wipeE env vs) w (L2.wipe σ vs) H where
  gd := c.gd
  len := by rw [wipeE_length, wipe_length]; exact c.len
  fro := fun i d h => by
    obtain ⟨h1, h2⟩ := wipeE_some vs env i _ h
    rw [wipe_ne vs σ i h2]
    exact c.fro i d h1
  own := fun i d h => by
    obtain ⟨h1, h2⟩ := wipeE_some vs env i _ h
    rw [wipe_ne vs σ i h2]
    exact c.own i d h1
  sep := fun i j d e v h1 h2 h3 h4 => by
    obtain ⟨h1, n1⟩ := wipeE_some vs env i _ h1
    obtain ⟨h2, n2⟩ := wipeE_some vs env j _ h2
    rw [wipe_ne vs σ i n1] at h3
    rw [wipe_ne vs σ j n2] at h4
    exact c.sep i j d e v h1 h2 h3 h4
/-- what is made new: an object that nobody knows yet -/
def PostN (M : Ms) (F : FS) (H : Hp) (r : R3 D) (Q : VK) : Prop := match r with
  | .ok d w' => ∀ F' H' a, Grow M F H F' w' H' → ¬ F' a → H a = none → ¬ isDk M a → OwnC M F' H' a d → Q (.ref a) H'
  | .bad => False
def T3n (M : Ms) (f : M3 D) : TE := fun σ H Q => ∃ B F env w, Cor M B F env w σ H ∧ PostN M F H (f env w) Q
theorem Grow.freeze {M : Ms} {F F' : FS} {H H' : Hp} {w' : Wd} {a : Addr} (g : Grow M F H F' w' H') (ha : H a = none) (nd : ¬ isDk M a) (h : H' a ≠ none) : Grow M F H (fun b => F' b ∨ b = a) w' H' where
  sub := fun b f => .inl (g.sub b f)
  keep := g.keep
  old := fun b f n => by
    rcases f with f | rfl
    · exact g.old b f n
    · exact absurd ha n
  dom := fun b f => by
    rcases f with f | rfl
    · exact g.dom b f
    · exact h
  world := fun p e => by
    obtain ⟨h1, h2, h3, h4, h5⟩ := g.world p e
    refine ⟨h1, h2, ?_, ?_, h5⟩
    · rintro (f | z)
      · exact h3 f
      · exact nd ⟨p, e, .inl z.symm⟩
    · rintro (f | z)
      · exact h4 f
      · exact nd ⟨p, e, .inr z.symm⟩
theorem OwnC.rel {M : Ms} {F : FS} {H : Hp} {a : Addr} {d : D} (h : OwnC M F H a d) (hl : ∀ c ds, d = .obj c ds → (M.nm c).length = ds.length) : RelD M (fun b => F b ∨ b = a) H d (.ref a) := by
  have s : Sub F (fun b => F b ∨ b = a) := fun b f => .inl f
  have e : Ext F H H := fun _ _ _ h => h
  cases d with
  | lst ds =>
    obtain ⟨xs, h, r⟩ := h
    exact ⟨a, xs, rfl, ⟨.inr rfl, h⟩, RelDs.mono s e _ _ r⟩
  | dic kvs =>
    rcases h with ⟨xs, h, r⟩ | ⟨xs, h, r⟩
    · exact ⟨a, rfl, .inr rfl, .inl ⟨xs, h, RelKs.mono s e _ _ r⟩⟩
    · exact ⟨a, rfl, .inr rfl, .inr ⟨xs, h, RelTs.mono s e _ _ r⟩⟩
  | obj c ds =>
    obtain ⟨dx, xs, h, r⟩ := h
    have hz := hl c ds rfl
    have hz2 := r.length
    rw [← hz, List.take_length] at h
    exact ⟨a, dx, xs, rfl, .inr rfl, h, by rw [hz, hz2], RelDs.mono s e _ _ r⟩
  | _ => exact h.elim
/-- frozen at once -/
theorem n3 {X : Cx} {M : Ms} {e : Expr} {f : M3 D} (h : PE X e (T3n M f)) (hl : ∀ env w c ds w', f env w = .ok (.obj c ds) w' → (M.nm c).length = ds.length := by intro env w c ds w' h; cases h) : PE X e (T3 M f) := PEi h fun σ H Q h => by
  obtain ⟨B, F, env, w, c, p⟩ := h
  refine ⟨B, F, env, w, c, ?_⟩
  cases ef : f env w with
  | bad => rw [ef] at p; exact p
  | ok d w' =>
    rw [ef] at p
    intro F' H' a g nf ha nd oc
    obtain ⟨o, ho⟩ := oc.there
    exact p _ H' _ (g.freeze ha nd (by rw [ho]; exact fun z => by cases z)) (oc.rel fun c ds e => hl env w c ds w' (by rw [ef, e]))
section
variable {X : Cx} {M : Ms}
theorem fresh_dk {F : FS} {w : Wd} {H : Hp} {a : Addr} (hw : WRel M F w H) (ha : H a = none) : ¬ isDk M a := fun d => hw.there d ha
theorem wipe_eq {vs : List Nat} {σ σ' : Sl} (o : Outs vs (L2.wipe σ vs) σ') : L2.wipe σ' vs = L2.wipe σ vs := by
  have w1 : ∀ (us : List Nat) (σ : Sl) (j : Nat), j ∈ us → j < σ.length → (L2.wipe σ us)[j]? = some none := by
    intro us
    induction us with
    | nil => intro σ j h; simp at h
    | cons i r ih =>
      intro σ j h hl
      show ((L2.wipe σ r).set i none)[j]? = some none
      by_cases ij : i = j
      · subst ij
        exact List.getElem?_set_self (by rw [wipe_length]; exact hl)
      · rw [List.getElem?_set_ne ij]
        rcases List.mem_cons.mp h with e | e
        · exact absurd e.symm ij
        · exact ih _ j e hl
  have l : σ'.length = σ.length := by rw [o.len, wipe_length]
  apply List.ext_getElem?
  intro j
  by_cases hj : j ∈ vs
  · by_cases hl : j < σ.length
    · rw [w1 vs σ' j hj (by omega), w1 vs σ j hj hl]
    · rw [List.getElem?_eq_none (by rw [wipe_length]; omega), List.getElem?_eq_none (by rw [wipe_length]; omega)]
  · rw [wipe_ne vs σ' j hj]
    exact o.out j hj
/-- the loop of a comprehension -/
theorem tlc_of {it : M3 (List D)} {g : G3} {t : M3 Bool} {f : M3 D} {vs : List Nat} : ∀ σ H Q, T3n M (mlc it g t f vs) σ H Q → tLc (T3i M it) (T3g M g vs) (T3t M t) (T3 M f) vs σ H Q := by
  intro σ H Q h
  obtain ⟨B, F0, env, w0, c0, p0⟩ := h
  refine ⟨B, F0, env, w0, c0, ?_⟩
  unfold mlc at p0
  cases ei : it env w0 with
  | bad => rw [ei] at p0; exact p0
  | ok ds w1 =>
    rw [ei] at p0
    dsimp only at p0
    intro F1 H1 J g1 ok D hD
    cases el : lcL g t f vs ds env w1 [] with
    | bad => rw [el] at p0; exact p0.elim
    | ok xs wn =>
      rw [el] at p0
      have c1 := c0.grow g1
      -- the new list stands at D; nobody knows it
      have nF : ¬ F1 D := fun z => c1.gd.dom D z hD
      have nD : ¬ isDk M D := fresh_dk c1.gd.world hD
      have hD0 : H D = none := by
        cases q : H D with
        | none => rfl
        | some o => rw [g1.keep D o q nD] at hD; cases hD
      -- D is stored into, from any state behind H1
      have put : ∀ {F : FS} {w : Wd} {H2 : Hp} {o : HO}, Grow M F1 H1 F w H2 → ¬ F D → Grow M F1 H1 F w (upd H2 D o) := fun {F w H2 o} gr nf => by
        refine ⟨gr.sub, fun b u e n => by rw [upd_ne (ne_of_none e hD)]; exact gr.keep b u e n, gr.old, fun b f => ?_, fun p e => ?_⟩
        · have hb : b ≠ D := fun z => nf (z ▸ f)
          rw [upd_ne hb]
          exact gr.dom b f
        · obtain ⟨h1, h2, h3, h4, h5⟩ := gr.world p e
          have k1 : p.1 ≠ D := fun z => nD ⟨p, e, .inl z.symm⟩
          have k2 : p.2 ≠ D := fun z => nD ⟨p, e, .inr z.symm⟩
          exact ⟨by rw [upd_ne k1]; exact h1, by rw [upd_ne k2]; exact h2, h3, h4, h5⟩
      refine ⟨fun i m H => i ≤ ds.length ∧ m = ds.length - i ∧ ∃ F w acc ys, Grow M F1 H1 F w H ∧ ¬ F D ∧ H D = some (.lst ys) ∧ RelDs M F H acc ys ∧ acc.length ≤ SL ∧ lcL g t f vs (ds.drop i) env w acc = .ok xs wn,
        ⟨ds.length, Nat.zero_le _, rfl, F1, w1, [], [], put (.refl c1.gd.dom c1.gd.world) nF, nF, upd_same, rfl, Nat.zero_le _, by rw [List.drop_zero]; exact el⟩, ?_⟩
      rintro i m H2 ⟨hi, rfl, F, w, acc, ys, gr, nFD, hDl, ra, hz, eq⟩
      have c := c1.grow gr
      have itk := ok i F H2 w gr.mono c.gd.dom c.gd.world
      by_cases hlt : i < ds.length
      · refine .inr ?_
        obtain ⟨go, yl⟩ := itk.2 ds[i] (List.getElem?_eq_getElem hlt)
        refine ⟨go, fun H' => ∃ F w acc ys, Grow M F1 H1 F w H' ∧ ¬ F D ∧ H' D = some (.lst ys) ∧ RelDs M F H' acc ys ∧ acc.length ≤ SL ∧ lcL g t f vs (ds.drop (i + 1)) env w acc = .ok xs wn, fun H' h => ⟨ds.length - (i + 1), by omega, hlt, rfl, h⟩, fun x H3 hy => ?_⟩
        obtain ⟨F3, g3, r3⟩ := yl x H3 hy
        have c3 := c.grow g3
        have hd : ds.drop i = ds[i] :: ds.drop (i + 1) := List.drop_eq_getElem_cons hlt
        rw [hd] at eq
        unfold lcL at eq
        have hDk : ∀ {F' F'' : FS} {w' : Wd} {H' H'' : Hp} {ys : List V}, Grow M F' H' F'' w' H'' → ¬ F' D → H' D = some (.lst ys) → ¬ F'' D ∧ H'' D = some (.lst ys) := fun {_ _ _ _ _ _} gg nf hh => ⟨fun z => nf (gg.old D z (by rw [hh]; exact fun z => by cases z)), gg.keep D _ hh nD⟩
        obtain ⟨nF3, hD3⟩ := hDk g3 nFD hDl
        have ra3 := RelDs.mono g3.sub g3.ext _ _ ra
        refine ⟨B, F3, wipeE env vs, w, ds[i], c3.wipe vs, r3, ?_⟩
        cases eg : g ds[i] (wipeE env vs) with
        | none => rw [eg] at eq; cases eq
        | some e2 =>
          rw [eg] at eq
          dsimp only at eq
          intro σ4 c4 o4
          refine ⟨wipe_eq o4, B, F3, e2, w, c4, ?_⟩
          cases et : t e2 w with
          | bad => rw [et] at eq; cases eq
          | ok k w5 =>
            rw [et] at eq
            intro F5 H5 g5
            obtain ⟨nF5, hD5⟩ := hDk g5 nF3 hD3
            have ra5 := RelDs.mono g5.sub g5.ext _ _ ra3
            cases k with
            | false =>
              rw [if_neg Bool.false_ne_true]
              exact ⟨F5, w5, acc, ys, gr.trans (g3.trans g5), nF5, hD5, ra5, hz, eq⟩
            | true =>
              rw [if_pos rfl]
              dsimp only at eq
              refine ⟨B, F5, e2, w5, c4.grow g5, ?_⟩
              cases ee : f e2 w5 with
              | bad => rw [ee] at eq; cases eq
              | ok d w6 =>
                rw [ee] at eq
                dsimp only at eq
                intro F6 H6 y g6 r6
                obtain ⟨nF6, hD6⟩ := hDk g6 nF5 hD5
                have ra6 := RelDs.mono g6.sub g6.ext _ _ ra5
                split at eq
                · rename_i hl
                  have big := put (o := .lst (ys ++ [y])) (gr.trans (g3.trans (g5.trans g6))) nF6
                  have ex : Ext F6 H6 (upd H6 D (.lst (ys ++ [y]))) := fun b o f e => by
                    have hb : b ≠ D := fun z => nF6 (z ▸ f)
                    rw [upd_ne hb]; exact e
                  refine ⟨ys, hD6, by rw [SL_eq, ← ra6.length]; exact hl, F6, w6, acc ++ [d], ys ++ [y], big, nF6, upd_same, ?_, by rw [List.length_append]; exact hl, eq⟩
                  exact (RelDs.mono (fun _ h => h) ex _ _ ra6).append (RelDs.one (RelD.mono (fun _ h => h) ex _ _ r6))
                · cases eq
      · refine .inl ⟨itk.1 (by omega), ?_⟩
        have hd : ds.drop i = [] := List.drop_eq_nil_of_le (by omega)
        rw [hd] at eq
        cases eq
        exact p0 F H2 D (g1.trans gr) nFD hD0 nD ⟨ys, hDl, ra⟩
def tyes : M3 Bool := M3.ret true
/-- the tests of a comprehension -/
theorem t3_yes : ∀ σ H Q, T3t M tyes σ H Q → tYes σ H Q := fun σ H Q ⟨B, F, env, w, c, p⟩ => p F H c.self
theorem PTsi {ifs : List Expr} {t t' : TT} (h : PTs X ifs t) (i : ∀ σ H Q, t' σ H Q → t σ H Q) : PTs X ifs t' := ⟨fun pins s σ H Q I q => h.run pins s σ H Q I (i σ H Q q)⟩
theorem t3s_nil : PTs X [] (T3t M tyes) := PTsi pts_nil t3_yes
theorem t3s_one {c : Expr} {t : M3 Bool} (h : PT X c (T3t M t)) : PTs X [c] (T3t M t) := pts_one h
theorem e3_lc {elt tg iter : Expr} {ifs : List Expr} {scope : Scope} {own : List (Str × Nat)} {pos : Pos} {it : M3 (List D)} {g : G3} {t : M3 Bool} {f : M3 D} (hc : X.calm = true) (hN : X.N.Nodup) (hi : PI X tg iter (T3i M it)) (ok : BlkOk X.N X.env.scope scope own)
    (hg : ∀ (s : Shared) (H : Hp) (C : Addr) (cl : List (Str × Addr)) (fp : List Addr), PG (X.blk s H scope (compEnvC scope cl C X.env) fp) tg (T3g M g (own.map (·.2)))) (ht : ∀ (s : Shared) (H : Hp) (C : Addr) (cl : List (Str × Addr)) (fp : List Addr), PTs (X.blk s H scope (compEnvC scope cl C X.env) fp) ifs (T3t M t))
    (he : ∀ (s : Shared) (H : Hp) (C : Addr) (cl : List (Str × Addr)) (fp : List Addr), PE (X.blk s H scope (compEnvC scope cl C X.env) fp) elt (T3 M f)) (hs : ∀ x, foldedSetIterable iter X.env x = pure x := by intro _; rfl) :
    PE X (.ListComp elt [⟨tg, iter, ifs, 0⟩] scope pos) (T3n M (mlc it g t f (own.map (·.2)))) := PEi (pe_lc hc hN hi ok hg ht he hs) tlc_of
end

/-! ### owned slots -/
def son (i : Nat) (fe : M3 D) : St3 := fun env w => match fe env w with
  | .ok d w' => if i < env.length then .nx (env.set i (some (true, d))) w' else .bad
  | .bad => .bad
theorem Cor.setN {M : Ms} {B : Bs} {F : FS} {env : Env3} {w : Wd} {σ : Sl} {H : Hp} {d : D} {a : Addr} (c : Cor M B F env w σ H) (nf : ¬ F a) (h0 : B.H0 a = none) (nd : ¬ isDk M a) (oc : OwnC M F H a d)
    (fr : ∀ (j : Nat) (e : D), env[j]? = some (some (true, e)) → σ[j]? ≠ some (some (.ref a))) (i : Nat) : Cor M B F (env.set i (some (true, d))) w (σ.set i (some (.ref a))) H where
  gd := c.gd
  len := by simp [c.len]
  fro := fun j e h => by
    by_cases ij : i = j
    · subst ij
      have hi : i < env.length := by
        have := (List.getElem?_eq_some_iff.mp h).1
        simpa using this
      rw [List.getElem?_set_self hi] at h
      cases h
    · rw [List.getElem?_set_ne ij] at h
      rw [List.getElem?_set_ne ij]
      exact c.fro j e h
  own := fun j e h => by
    by_cases ij : i = j
    · subst ij
      have hi : i < env.length := by
        have := (List.getElem?_eq_some_iff.mp h).1
        simpa using this
      rw [List.getElem?_set_self hi] at h
      cases h
      exact ⟨.ref a, List.getElem?_set_self (by rw [c.len]; exact hi), a, rfl, nf, h0, nd, oc⟩
    · rw [List.getElem?_set_ne ij] at h
      rw [List.getElem?_set_ne ij]
      exact c.own j e h
  sep := fun j k e f u h1 h2 h3 h4 => by
    by_cases ij : i = j
    · by_cases ik : i = k
      · omega
      · subst ij
        rw [List.getElem?_set_ne ik] at h2 h4
        have hi : i < σ.length := by
          have := (List.getElem?_eq_some_iff.mp h3).1
          simpa using this
        rw [List.getElem?_set_self hi] at h3
        cases h3
        exact absurd h4 (fr k f h2)
    · by_cases ik : i = k
      · subst ik
        rw [List.getElem?_set_ne ij] at h1 h3
        have hi : i < σ.length := by
          have := (List.getElem?_eq_some_iff.mp h4).1
          simpa using this
        rw [List.getElem?_set_self hi] at h4
        cases h4
        exact absurd h3 (fr j e h1)
      · rw [List.getElem?_set_ne ij] at h1 h3
        rw [List.getElem?_set_ne ik] at h2 h4
        exact c.sep j k e f u h1 h2 h3 h4
theorem Cor.newN {M : Ms} {B : Bs} {F F' : FS} {env : Env3} {w w' : Wd} {σ : Sl} {H H' : Hp} {d : D} {a : Addr} (c : Cor M B F env w σ H) (g : Grow M F H F' w' H') (nf : ¬ F' a) (ha : H a = none) (nd : ¬ isDk M a) (oc : OwnC M F' H' a d) (i : Nat) :
    Cor M B F' (env.set i (some (true, d))) w' (σ.set i (some (.ref a))) H' := by
  refine (c.grow g).setN nf ?_ nd oc (fun j e h1 h2 => ?_) i
  · cases q : B.H0 a with
    | none => rfl
    | some o => rw [c.gd.keep a o q nd] at ha; cases ha
  · obtain ⟨v, h3, b, rfl, _, _, _, oc2⟩ := c.own j e h1
    rw [h2] at h3
    cases h3
    obtain ⟨o, ho⟩ := oc2.there
    rw [ha] at ho
    cases ho
section
variable {X : Cx} {M : Ms} {e : Expr} {fe : M3 D} {pos : Pos}
/-- x = a new object that this frame will change -/
theorem s3_new (i : Nat) {x : Str} {pos' : Pos} (hN : X.N.Nodup) (he : PE X e (T3n M fe)) (hi : X.N[i]? = some x := by rfl) (hx : Loc X.env.scope x := by first | exact Or.inl rfl | exact Or.inr rfl) (hs : swapsWith e (some (.Name x pos')) pos.line X.env = pure false := by rfl)
    (hf : X.fn x = true ∨ X.env.scope.names.lookup x = some .local := by first | exact .inl rfl | exact .inr rfl | assumption) : PS X (.Assign [.Name x pos'] e pos) (TS3 M (son i fe)) := by
  refine PSi (ps_set hN hi hx he hs hf) fun D0 σ H h => ?_
  obtain ⟨B, F, env, w, c, p⟩ := h
  refine ⟨B, F, env, w, c, ?_⟩
  unfold son at p
  cases ef : fe env w with
  | bad => rw [ef] at p; exact p
  | ok d w' =>
    rw [ef] at p
    dsimp only at p
    intro F' H' a g nf ha nd oc
    split at p
    · exact p F' _ H' (c.newN g nf ha nd oc i) g.mono
    · exact p.elim
/-- x = [.. for ..] on one line, kept (frozen) or owned -/
theorem s3_setLcN {i : Nat} {y : Str} {py : Pos} {elt tg iter : Expr} {ifs : List Expr} {scope : Scope} {own : List (Str × Nat)} {spos : Pos} {it : M3 (List D)} {g : G3} {t : M3 Bool} {f : M3 D} (hc : X.calm = true) (hN : X.N.Nodup) (hi : PI X tg iter (T3i M it)) (ok : BlkOk X.N X.env.scope scope own)
    (hg : ∀ (s : Shared) (H : Hp) (C : Addr) (cl : List (Str × Addr)) (fp : List Addr), PG (X.blk s H scope (compEnvC scope cl C X.env) fp) tg (T3g M g (own.map (·.2)))) (ht : ∀ (s : Shared) (H : Hp) (C : Addr) (cl : List (Str × Addr)) (fp : List Addr), PTs (X.blk s H scope (compEnvC scope cl C X.env) fp) ifs (T3t M t))
    (he : ∀ (s : Shared) (H : Hp) (C : Addr) (cl : List (Str × Addr)) (fp : List Addr), PE (X.blk s H scope (compEnvC scope cl C X.env) fp) elt (T3 M f)) (hy : X.N[i]? = some y := by rfl) (hyl : X.env.scope.names.lookup y = some .local := by rfl)
    (hsw : swapsWith (.ListComp elt [⟨tg, iter, ifs, 0⟩] scope pos) (some (.Name y py)) spos.line X.env = pure true := by exact sw_true rfl rfl rfl (by decide +kernel)) (hs : ∀ x, foldedSetIterable iter X.env x = pure x := by intro _; rfl) :
    PS X (.Assign [.Name y py] (.ListComp elt [⟨tg, iter, ifs, 0⟩] scope pos) spos) (TS3 M (son i (mlc it g t f (own.map (·.2))))) := by
  refine PSi (ps_setLc hc hN hy hyl hsw hi ok hg ht he hs) fun D0 σ H h => ?_
  refine tlc_of _ _ _ ?_
  obtain ⟨B, F, env, w, c, p⟩ := h
  refine ⟨B, F, env, w, c, ?_⟩
  unfold son at p
  cases ef : mlc it g t f (own.map (·.2)) env w with
  | bad => rw [ef] at p; exact p
  | ok d w' =>
    rw [ef] at p
    dsimp only at p
    intro F' H' a g nf ha nd oc
    split at p
    · exact p F' _ H' (c.newN g nf ha nd oc i) g.mono
    · exact p.elim
/-- an owned slot is frozen -/
def fz (i : Nat) (f : St3) : St3 := fun env w => match env[i]? with
  | some (some (_, d)) => f (env.set i (some (false, d))) w
  | _ => .bad
theorem Cor.freeze {B : Bs} {F : FS} {env : Env3} {w : Wd} {σ : Sl} {H : Hp} {i : Nat} {d : D} (c : Cor M B F env w σ H) (h : env[i]? = some (some (true, d))) (hl : ∀ c ds, d = .obj c ds → (M.nm c).length = ds.length) : ∃ F', Cor M B F' (env.set i (some (false, d))) w σ H ∧ Mono F H F' H := by
  obtain ⟨v, hv, a, rfl, nf, h0, nd, oc⟩ := c.own i d h
  obtain ⟨o, ho⟩ := oc.there
  have hi : i < env.length := (List.getElem?_eq_some_iff.mp h).1
  have s : Sub F (fun b => F b ∨ b = a) := fun b f => .inl f
  refine ⟨fun b => F b ∨ b = a, ⟨⟨fun b f => ?_, fun p e => ?_, c.gd.keep, fun b f n => ?_, fun b f => .inl (c.gd.sub b f)⟩, by simp [c.len], fun j e hj => ?_, fun j e hj => ?_, fun j k e f u h1 h2 h3 h4 => ?_⟩, ⟨s, fun _ _ _ h => h⟩⟩
  · rcases f with f | rfl
    · exact c.gd.dom b f
    · rw [ho]; exact fun z => by cases z
  · obtain ⟨h1, h2, h3, h4, h5⟩ := c.gd.world p e
    refine ⟨h1, h2, ?_, ?_, h5⟩
    · rintro (f | z)
      · exact h3 f
      · exact nd ⟨p, e, .inl z.symm⟩
    · rintro (f | z)
      · exact h4 f
      · exact nd ⟨p, e, .inr z.symm⟩
  · rcases f with f | rfl
    · exact c.gd.old b f n
    · exact absurd h0 n
  · by_cases ij : i = j
    · subst ij
      rw [List.getElem?_set_self hi] at hj
      cases hj
      exact ⟨_, hv, oc.rel hl⟩
    · rw [List.getElem?_set_ne ij] at hj
      obtain ⟨u, hu, r⟩ := c.fro j e hj
      exact ⟨u, hu, RelD.mono s (fun _ _ _ h => h) _ _ r⟩
  · by_cases ij : i = j
    · subst ij
      rw [List.getElem?_set_self hi] at hj
      cases hj
    · rw [List.getElem?_set_ne ij] at hj
      obtain ⟨u, hu, b, rfl, nfb, h0b, ndb, ocb⟩ := c.own j e hj
      refine ⟨_, hu, b, rfl, ?_, h0b, ndb, ocb.mono s (fun _ _ _ h => h) fun _ h => h⟩
      rintro (f | z)
      · exact nfb f
      · subst z
        exact ij (c.sep i j d e _ h hj hv hu)
  · by_cases ij : i = j
    · subst ij
      rw [List.getElem?_set_self hi] at h1
      cases h1
    · by_cases ik : i = k
      · subst ik
        rw [List.getElem?_set_self hi] at h2
        cases h2
      · rw [List.getElem?_set_ne ij] at h1
        rw [List.getElem?_set_ne ik] at h2
        exact c.sep j k e f u h1 h2 h3 h4
theorem Cor.refreeze {B : Bs} {F : FS} {env : Env3} {w : Wd} {σ : Sl} {H : Hp} {i : Nat} {d : D} (c : Cor M B F env w σ H) (h : env[i]? = some (some (false, d))) : env.set i (some (false, d)) = env := by
  apply List.ext_getElem?
  intro j
  by_cases ij : i = j
  · subst ij
    rw [List.getElem?_set_self (List.getElem?_eq_some_iff.mp h).1, h]
  · rw [List.getElem?_set_ne ij]
def notObj : D → Bool
  | .obj _ _ => false
  | _ => true
theorem ss_fz (i : Nat) {sts : List Stmt} {f : St3} (h : PSs X sts (TS3 M f)) : PSs X sts (TS3 M (fun env w => match env[i]? with
  | some (some (_, d)) => if notObj d then f (env.set i (some (false, d))) w else .bad
  | _ => .bad)) := PSsi h fun D0 σ H h => by
  obtain ⟨B, F, env, w, c, p⟩ := h
  dsimp only at p
  split at p
  · rename_i o d hd
    split at p
    · rename_i hn
      cases o with
      | false => exact ⟨B, F, env, w, c, by rw [c.refreeze hd] at p; exact p⟩
      | true =>
        obtain ⟨F', c', m'⟩ := c.freeze hd (fun c ds e => by subst e; cases hn)
        exact ⟨B, F', _, w, c', p.grow m'⟩
    · exact p.elim
  · exact p.elim
/-- x.append(e), x owned -/
def sapp (i : Nat) (fe : M3 D) : St3 := fun env w => match env[i]? with
  | some (some (true, .lst ds)) => match fe env w with
    | .ok d w' => if ds.length < SL then .nx (env.set i (some (true, .lst (ds ++ [d])))) w' else .bad
    | .bad => .bad
  | _ => .bad
theorem Cor.put {B : Bs} {F : FS} {env : Env3} {w : Wd} {σ : Sl} {H : Hp} {i : Nat} {d d' : D} {a : Addr} {o : HO} (c : Cor M B F env w σ H) (h : env[i]? = some (some (true, d))) (hv : σ[i]? = some (some (.ref a))) (hn : OwnC M F (upd H a o) a d') :
    Cor M B F (env.set i (some (true, d'))) w σ (upd H a o) ∧ Mono F H F (upd H a o) := by
  obtain ⟨v, hv', a', rfl, nf, h0, nd, oc⟩ := c.own i d h
  rw [hv] at hv'
  cases hv'
  have hi : i < env.length := (List.getElem?_eq_some_iff.mp h).1
  have ex : Ext F H (upd H a o) := fun b u f e => by
    have hb : b ≠ a := fun z => nf (z ▸ f)
    rw [upd_ne hb]; exact e
  refine ⟨⟨⟨fun b f => ?_, fun p e => ?_, fun b u e n => ?_, c.gd.old, c.gd.sub⟩, by simp [c.len], fun j e hj => ?_, fun j e hj => ?_, fun j k e f u h1 h2 h3 h4 => ?_⟩, fun _ h => h, ex⟩
  · have hb : b ≠ a := fun z => nf (z ▸ f)
    rw [upd_ne hb]; exact c.gd.dom b f
  · obtain ⟨h1, h2, h3, h4, h5⟩ := c.gd.world p e
    have k1 : p.1 ≠ a := fun z => nd ⟨p, e, .inl z.symm⟩
    have k2 : p.2 ≠ a := fun z => nd ⟨p, e, .inr z.symm⟩
    exact ⟨by rw [upd_ne k1]; exact h1, by rw [upd_ne k2]; exact h2, h3, h4, h5⟩
  · have hb : b ≠ a := fun z => by subst z; rw [h0] at e; cases e
    rw [upd_ne hb]; exact c.gd.keep b u e n
  · by_cases ij : i = j
    · subst ij
      rw [List.getElem?_set_self hi] at hj
      cases hj
    · rw [List.getElem?_set_ne ij] at hj
      obtain ⟨u, hu, r⟩ := c.fro j e hj
      exact ⟨u, hu, RelD.mono (fun _ h => h) ex _ _ r⟩
  · by_cases ij : i = j
    · subst ij
      rw [List.getElem?_set_self hi] at hj
      cases hj
      exact ⟨_, hv, a, rfl, nf, h0, nd, hn⟩
    · rw [List.getElem?_set_ne ij] at hj
      obtain ⟨u, hu, b, rfl, nfb, h0b, ndb, ocb⟩ := c.own j e hj
      have hb : b ≠ a := fun z => by
        subst z
        exact ij (c.sep i j d e _ h hj hv hu)
      exact ⟨_, hu, b, rfl, nfb, h0b, ndb, ocb.mono (fun _ h => h) ex fun u h => by rw [upd_ne hb]; exact h⟩
  · have key : ∀ (m : Nat) (e : D), (env.set i (some (true, d')))[m]? = some (some (true, e)) → ∃ e', env[m]? = some (some (true, e')) := fun m e hm => by
      by_cases im : i = m
      · subst im; exact ⟨d, h⟩
      · rw [List.getElem?_set_ne im] at hm; exact ⟨e, hm⟩
    obtain ⟨e', h1⟩ := key j e h1
    obtain ⟨f', h2⟩ := key k f h2
    exact c.sep j k e' f' u h1 h2 h3 h4
theorem s3_append (i : Nat) {x : Str} {px : Pos} {apos cpos : Pos} (he : PE X e (T3 M fe)) (hi : X.N[i]? = some x := by rfl) (hv : Vis X.env.scope x := by first | exact Or.inl rfl | exact Or.inr (Or.inl rfl) | exact Or.inr (Or.inr rfl)) (hd : (x == ("__debug__" : Str)) = false := by decide) (hcd : (x == ("__classdict__" : Str)) = false := by decide)
    (hK : M.K = X.K := by rfl) (hse : starEach [e] X.env = (false, eval e X.env) :: starEach [] X.env := by rfl)
    (hbase : attributeBase (.Name x px) "append" X.env (eval (.Name x px) X.env) = eval (.Name x px) X.env := by rfl)
    (hfew : ((backTo cpos (starEach [e] X.env)).all (fun x => !x.1) && (backToKw cpos (keywordEach [] X.env)).all (fun x => x.1.isSome)
      && decide ([e].length + ([] : List Keyword).length + (if ([] : List Keyword).isEmpty then 0 else 1) < 30)) = true := by rfl)
    (hline : (apos.endLine == cpos.line) = true := by rfl) (hplain : (backTo cpos (starEach [] X.env)).any (·.1) = false := by rfl)
    (hs : swapsWith (.Call (.Attribute (.Name x px) "append" apos) [e] [] cpos) none pos.line X.env = pure false := by rfl) :
    PS X (.Expr (.Call (.Attribute (.Name x px) "append" apos) [e] [] cpos) pos) (TS3 M (sapp i fe)) := by
  refine PSi (ps_expr (pe_bm PySem.F.plainAttrs_list PySem.F.slot_list_append PySem.F.type_list_append mt_append (pe_var hi hv hd hcd) (pa_cons he pa_nil hse) hbase hfew hline hse hplain) hs) fun D0 σ H h => ?_
  obtain ⟨B, F, env, w, c, p⟩ := h
  unfold sapp at p
  split at p
  · rename_i ds0 h0
    obtain ⟨v, hv, a, rfl, nf, hz, nd, xs, hl, rx⟩ := c.own i _ h0
    refine ⟨_, hv, .inl ⟨rfl, xs, .of hl⟩, B, F, env, w, c, ?_⟩
    cases ef : fe env w with
    | bad => rw [ef] at p; exact p
    | ok d w' =>
      rw [ef] at p
      dsimp only at p
      intro F' H' u g r
      have c' := c.grow g
      have hl' := g.keep a _ hl nd
      · split at p
        · rename_i hlen
          have rx' := RelDs.mono g.sub g.ext _ _ rx
          refine ⟨a, xs, u, rfl, rfl, hl', by rw [SL_eq, ← rx'.length]; exact hlen, ?_⟩
          have nf' : ¬ F' a := fun z => nf (g.old a z (by rw [hl]; exact fun z => by cases z))
          have ex : Ext F' H' (upd H' a (.lst (xs ++ [u]))) := fun b o f e => by
            have hb : b ≠ a := fun z => nf' (z ▸ f)
            rw [upd_ne hb]; exact e
          obtain ⟨c2, m2⟩ := c'.put (o := .lst (xs ++ [u])) (d' := .lst (ds0 ++ [d])) h0 hv ⟨xs ++ [u], upd_same, (RelDs.mono (fun _ h => h) ex _ _ rx').append (RelDs.one (RelD.mono (fun _ h => h) ex _ _ r))⟩
          exact p F' σ _ c2 (g.mono.trans m2)
        · exact p.elim
  · exact p.elim
/-- a list display, as a new object -/
theorem e3n_lst {es : List Expr} {fs : M3 (List D)} (h : PA X es (T3a M fs)) : PE X (.List es pos) (T3n M (mlst fs)) := by
  refine PEi (pe_lst h) fun σ H Q h => ?_
  obtain ⟨B, F, env, w, c, p⟩ := h
  refine ⟨B, F, env, w, c, ?_⟩
  unfold mlst M3.bind at p
  cases ef : fs env w with
  | bad => rw [ef] at p; exact p
  | ok ds w' =>
    rw [ef] at p
    dsimp only at p
    intro F' H' vs g r
    split at p
    · rename_i hl
      refine ⟨by rw [SL_eq, ← r.length]; exact hl, fun a ha => ?_⟩
      have c' := c.grow g
      have nf : ¬ F' a := fun z => c'.gd.dom a z ha
      have nd := fresh_dk c'.gd.world ha
      have ex : Ext F' H' (upd H' a (.lst vs)) := fun b o f e => by rw [upd_ne (ne_of_none e ha)]; exact e
      refine p F' _ a ⟨g.sub, fun b o e n => by rw [upd_ne (ne_of_none (g.keep b o e n) ha)]; exact g.keep b o e n, g.old, fun b f => ?_, fun q e => ?_⟩ nf ?_ nd ⟨vs, upd_same, RelDs.mono (fun _ h => h) ex _ _ r⟩
      · have hb : b ≠ a := fun z => nf (z ▸ f)
        rw [upd_ne hb]; exact g.dom b f
      · obtain ⟨h1, h2, h3, h4, h5⟩ := g.world q e
        exact ⟨by rw [upd_ne (ne_of_none h1 ha)]; exact h1, by rw [upd_ne (ne_of_none h2 ha)]; exact h2, h3, h4, h5⟩
      · cases q : H a with
        | none => rfl
        | some o => rw [g.keep a o q nd] at ha; cases ha
    · exact p.elim
end
end L3

set_option Elab.async false
set_option linter.all false
set_option maxRecDepth 100000
set_option maxHeartbeats 4000000
/-! L3Call: defs and their calls. A def is known by the plain function that it computes. -/
namespace L3
open PySem PySem.Spec PyProof.Rows L2

/-- what a def computes: of its arguments and the deck, a result and the deck behind it -/
abbrev Fun3 := List D → Wd → R3 D
def Sp3 (M : Ms) (n : Nat) (m : Fun3) : Sp := fun vs H Q _ => ∃ (F : FS) (w : Wd) (ds : List D), (∀ b, F b → H b ≠ none) ∧ WRel M F w H ∧ RelDs M F H ds vs ∧ ds.length = n ∧ Post M F H (m ds w) Q

section
variable (P : Program) (w : World) (K : PySem.W.Frag) (mg : Str → Option Value) (base : Heap)
/-- a def keeps a promise wherever k rooms are left and no repr is running -/
def FnG (k : Nat) (f : Addr) (fd : FuncData) (ps : List Str) (sp : Sp) : Prop :=
  ∀ (A : Around) (outer : List Env) (s : Shared) (H : Hp) (args : Args) (us : List Value) (vs : List V) (Q : VK), Room k A → A.guards = some [] → Env0 P w K mg base A outer s H → vs.length = ps.length →
    BindsTo s fd args (ps.zip us) → Vals vs us → sp vs H Q E0 → codeAny (model P w) A (.call (.ref f) args) (CR CX0 outer P w H s Q E0) s
/-- .. called with positional arguments -/
def PosG (k : Nat) (f : Addr) (sp : Sp) : Prop :=
  ∀ (A : Around) (outer : List Env) (s : Shared) (H : Hp) (us : List Value) (vs : List V) (Q : VK), Room k A → A.guards = some [] → Env0 P w K mg base A outer s H → Vals vs us → sp vs H Q E0 →
    codeAny (model P w) A (.call (.ref f) ⟨us, []⟩) (CR CX0 outer P w H s Q E0) s
/-- .. called with keywords alone, ks; g puts their values in order -/
def KwG (k : Nat) (f : Addr) (ks : List Str) (g : {α : Type} → List α → List α) (sp : Sp) : Prop :=
  ∀ (A : Around) (outer : List Env) (s : Shared) (H : Hp) (us : List Value) (vs : List V) (Q : VK), Room k A → A.guards = some [] → Env0 P w K mg base A outer s H → Vals vs us → vs.length = ks.length → sp (g vs) H Q E0 →
    codeAny (model P w) A (.call (.ref f) ⟨[], ks.zip us⟩) (CR CX0 outer P w H s Q E0) s
end
section
variable {P : Program} {w : World} {K : PySem.W.Frag} {mg : Str → Option Value} {base : Heap}
theorem PosG.mono {j k : Nat} {f : Addr} {sp : Sp} (h : PosG P w K mg base j f sp) (hjk : j ≤ k) : PosG P w K mg base k f sp := fun A outer s H us vs Q hr => h A outer s H us vs Q (hr.mono hjk)
theorem KwG.mono {j k : Nat} {f : Addr} {sp : Sp} {ks : List Str} {g : {α : Type} → List α → List α} (h : KwG P w K mg base j f ks g sp) (hjk : j ≤ k) : KwG P w K mg base k f ks g sp := fun A outer s H us vs Q hr => h A outer s H us vs Q (hr.mono hjk)
theorem FnG.pos {k : Nat} {f : Addr} {fd : FuncData} {ps : List Str} {sp : Sp} (h : FnG P w K mg base k f fd ps sp) (len : ∀ vs H Q E, sp vs H Q E → vs.length = ps.length) (hb : Binds K fd ps []) : PosG P w K mg base k f sp := by
  intro A outer s H us vs Q hr hg e0 rv hs
  have hl := len _ _ _ _ hs
  have KX : K.In s.heap := e0.mod.kin.keeps fun b o e => (e0.bs b o e).1
  have hz := hb s us KX (by rw [List.append_nil, ← rv.length]; exact hl)
  rw [List.append_nil] at hz
  exact h A outer s H ⟨us, []⟩ us vs Q hr hg e0 hl hz rv hs
theorem FnG.kw {k : Nat} {f : Addr} {fd : FuncData} {ps ks : List Str} {sp : Sp} {g : {α : Type} → List α → List α} (h : FnG P w K mg base k f fd ps sp) (len : ∀ vs H Q E, sp vs H Q E → vs.length = ps.length)
    (hb : ∀ (s : Shared) (us : List Value), us.length = ks.length → BindsTo s fd ⟨[], ks.zip us⟩ (ps.zip (g us))) (hr : ∀ {vs : List V} {us : List Value}, Vals vs us → Vals (g vs) (g us)) : KwG P w K mg base k f ks g sp := by
  intro A outer s H us vs Q hrm hg e0 rv hlv hs
  exact h A outer s H ⟨[], ks.zip us⟩ (g us) (g vs) Q hrm hg e0 (len _ _ _ _ hs) (hb s us (by rw [← rv.length]; exact hlv)) (hr rv) hs
theorem FnR.posG {k : Nat} {f : Addr} {sp : Sp} (h : FnR P w K mg base CX0 k f sp) : PosG P w K mg base k f sp := fun A outer s H us vs Q hr _ e0 rv hs => h A outer s H us vs Q E0 hr e0 rv hs

/-- a body keeps its def's promise (guards told) -/
theorem fnG_of {k : Nat} {x qual : Str} {st : Stmt} {f : Addr} {fd : FuncData} {N ps : List Str} {sp : Sp} (Fn : Fun K x qual st f fd) (S : FnScope N ps (defScope st))
    (hbody : ∀ (cdv : Value) (A : Around) (outer : List Env) (s : Shared) (H : Hp) (vs : List V) (Q : VK), Room k (A.deeper (envOfC qual (defScope st) s.heap.objs.size f cdv)) → A.guards = some [] → sp vs H Q E0 →
      ∃ t, PSs (cxOf CX0 P w K mg base N qual (defScope st) f cdv A outer s H E0).nox (defBody st) t ∧ t { nx := fun _ H' => Q .non H', rt := Q } (start N vs) H) : FnG P w K mg base (k + 1) f fd ps sp := by
  obtain ⟨oc, od, kV, doc, pm, an, cdv, ct, osl, efd, look, code⟩ := Fn.ex
  subst efd
  intro A outer s H args us vs Q room gd e0 lenV bind rel prom
  have inK : K.In s.heap := e0.mod.kin.keeps fun b o e => (e0.bs b o e).1
  have unlimited : s.heap.NoLimit := e0.mod.nolimit.keeps fun b o e => (e0.bs b o e).1
  have kinds : ∀ y ∈ ps.zip us, (defScope st).names.lookup y.1 = some .local ∨ ((defScope st).names.lookup y.1 = some .cell ∧ ((cellsFrom (s.heap.objs.size + 1) (defScope st).names []).lookup y.1).isSome = true) := by
    rintro ⟨n, v⟩ hy
    cases S.par n (List.of_mem_zip hy).1 with
    | inl q => exact .inl q
    | inr q => exact .inr ⟨q, PySem.W.cellsFrom_some _ _ _ (.inl q)⟩
  refine codeAny_call_function room.depth (inK _ _ look) rfl S.co S.gen rfl (PySem.W.codeRec_of inK code) (bind _ _ _ _ (wpAny_newFunctionEnv_cells S.kind kinds fun env eenv s1 x1 => ?_))
  subst eenv
  refine ⟨unlimited.keeps x1.toInCall.keep, codeAny_func ?_⟩
  obtain ⟨t, ht, hq⟩ := hbody cdv A outer s H vs Q (room.deeper _) gd prom
  have I : Inv (cxOf CX0 P w K mg base N qual (defScope st) f cdv A outer s H E0) [] (start N vs) H s1 := inv_start S room.hd e0 lenV rel x1
  refine wpAny_mono (ht.nox.run [] s1 (start N vs) H _ I hq) (fun fl s' hs => ?_) fun e s' hs => hs
  cases fl with
  | ret u =>
    obtain ⟨v, σ', H', J, rv, q⟩ := hs
    exact ⟨v, H', J.os, J.bare, J.base, J.hok, rv, q⟩
  | next =>
    obtain ⟨σ', H', J, q⟩ := hs
    exact ⟨V.non, H', J.os, J.bare, J.base, J.hok, rfl, q⟩
  | brk => exact hs.choose_spec.choose_spec.2.elim
  | cont => exact hs.choose_spec.choose_spec.2.elim
end

/-! ### a body as a plain function -/
def env0 (n : Nat) (ds : List D) : Env3 := ds.map (fun d => some (false, d)) ++ List.replicate (n - ds.length) none
def runS : S3 → R3 D
  | .nx _ w => .ok .non w
  | .ret d w => .ok d w
  | _ => .bad
/-- what a body of n names computes -/
def defM (n : Nat) (g : St3) : Fun3 := fun ds w => runS (g (env0 n ds) w)
section
variable {P : Program} {w : World} {K : PySem.W.Frag} {mg : Str → Option Value} {base : Heap} {M : Ms}
theorem env0_some {n : Nat} {ds : List D} {i : Nat} {p : Bool × D} (h : (env0 n ds)[i]? = some (some p)) : ∃ d, ds[i]? = some d ∧ p = (false, d) := by
  unfold env0 at h
  by_cases hi : i < ds.length
  · rw [List.getElem?_append_left (by simpa using hi), List.getElem?_map] at h
    cases e : ds[i]? with
    | none => rw [e] at h; cases h
    | some d => rw [e] at h; cases h; exact ⟨d, rfl, rfl⟩
  · rw [List.getElem?_append_right (by simpa using hi), List.getElem?_replicate] at h
    split at h <;> cases h
theorem start_some {N : List Str} {vs : List V} {i : Nat} {v : V} (h : vs[i]? = some v) : (L2.start N vs)[i]? = some (some v) := by
  have hi : i < vs.length := (List.getElem?_eq_some_iff.mp h).1
  unfold L2.start
  rw [List.getElem?_append_left (by simpa using hi), List.getElem?_map, h]
  rfl
theorem cor_start {N : List Str} {F : FS} {H : Hp} {wd : Wd} {ds : List D} {vs : List V} (hd : ∀ b, F b → H b ≠ none) (hw : WRel M F wd H) (r : RelDs M F H ds vs) (hN : ds.length ≤ N.length) : Cor M ⟨H, F⟩ F (env0 N.length ds) wd (start N vs) H where
  gd := ⟨hd, hw, fun _ _ e _ => e, fun _ f _ => f, fun _ f => f⟩
  len := by
    unfold L2.start env0
    rw [List.length_append, List.length_append, List.length_map, List.length_map, List.length_replicate, List.length_replicate, r.length]
  fro := fun i d h => by
    obtain ⟨d', e, z⟩ := env0_some h
    cases z
    obtain ⟨v, q, rv⟩ := r.get e
    exact ⟨v, start_some q, rv⟩
  own := fun i d h => by
    obtain ⟨d', e, z⟩ := env0_some h
    cases z
  sep := fun i j d e v h1 h2 => by
    obtain ⟨d', e, z⟩ := env0_some h1
    cases z
theorem ts_start {N : List Str} {n : Nat} {g : St3} {vs : List V} {H : Hp} {Q : VK} {E : XK} (hN : n ≤ N.length) (h : Sp3 M n (defM N.length g) vs H Q E) : TS3 M g { nx := fun _ H' => Q .non H', rt := Q } (start N vs) H := by
  obtain ⟨F, wd, ds, hd, hw, r, hl, p⟩ := h
  refine ⟨⟨H, F⟩, F, _, wd, cor_start hd hw r (by omega), ?_⟩
  unfold defM at p
  cases eg : g (env0 N.length ds) wd with
  | nx e w' =>
    rw [eg] at p
    exact fun F' σ' H' c _ => p F' H' .non c.gd.whole rfl
  | ret d w' =>
    rw [eg] at p
    exact fun F' H' v g _ r => p F' H' v g.whole r
  | ct e w' => rw [eg] at p; exact p.elim
  | bk e w' => rw [eg] at p; exact p.elim
  | bad => rw [eg] at p; exact p
theorem sp3_len {n : Nat} {m : Fun3} {vs : List V} {H : Hp} {Q : VK} {E : XK} (h : Sp3 M n m vs H Q E) : vs.length = n := by
  obtain ⟨F, wd, ds, hd, hw, r, hl, p⟩ := h
  rw [← r.length]; exact hl
/-- THE RULE for a def -/
theorem fn3 {k : Nat} {x qual : Str} {st : Stmt} {f : Addr} {fd : FuncData} {N ps : List Str} {g : St3} (Fn : Fun K x qual st f fd) (S : FnScope N ps (defScope st))
    (hbody : ∀ (cdv : Value) (A : Around) (outer : List Env) (s : Shared) (H : Hp), Room k (A.deeper (envOfC qual (defScope st) s.heap.objs.size f cdv)) → A.guards = some [] →
      PSs (cxOf CX0 P w K mg base N qual (defScope st) f cdv A outer s H E0).nox (defBody st) (TS3 M g)) : FnG P w K mg base (k + 1) f fd ps (Sp3 M ps.length (defM N.length g)) := by
  have hN : ps.length ≤ N.length := by have := congrArg List.length S.pre; rw [List.length_take] at this; omega
  exact fnG_of Fn S fun cdv A outer s H vs Q hr hg h => ⟨_, hbody cdv A outer s H hr hg, ts_start hN h⟩
/-- the same computed by another plain function -/
theorem Sp3.imp {n : Nat} {m m' : Fun3} (e : ∀ ds w, ds.length = n → m' ds w ≠ .bad → m ds w = m' ds w) {vs : List V} {H : Hp} {Q : VK} {E : XK} (h : Sp3 M n m' vs H Q E) : Sp3 M n m vs H Q E := by
  obtain ⟨F, wd, ds, hd, hw, r, hl, p⟩ := h
  refine ⟨F, wd, ds, hd, hw, r, hl, ?_⟩
  rw [e ds wd hl (fun z => by rw [z] at p; exact p)]
  exact p
theorem FnG.imp {k : Nat} {f : Addr} {fd : FuncData} {ps : List Str} {sp sp' : Sp} (h : FnG P w K mg base k f fd ps sp) (i : ∀ vs H Q E, sp' vs H Q E → sp vs H Q E) : FnG P w K mg base k f fd ps sp' :=
  fun A outer s H args us vs Q hr hg e0 hl hb rv hs => h A outer s H args us vs Q hr hg e0 hl hb rv (i _ _ _ _ hs)
theorem PosG.imp {k : Nat} {f : Addr} {sp sp' : Sp} (h : PosG P w K mg base k f sp) (i : ∀ vs H Q E, sp' vs H Q E → sp vs H Q E) : PosG P w K mg base k f sp' :=
  fun A outer s H us vs Q hr hg e0 rv hs => h A outer s H us vs Q hr hg e0 rv (i _ _ _ _ hs)
end

/-! ### calls -/
def callM (m : Fun3) (n : Nat) (fs : M3 (List D)) : M3 D := fs.bind fun ds _ w => if ds.length = n then m ds w else .bad
def kwM (m : Fun3) (n : Nat) (g : {α : Type} → List α → List α) (fs : M3 (List D)) : M3 D := fs.bind fun ds _ w => if (g ds).length = n then m (g ds) w else .bad
section
variable {X : Cx} {M : Ms} {x : Str} {p pos : Pos} {e : Expr} {es : List Expr} {kws : List Keyword} {fs : M3 (List D)} {f : Addr} {k n : Nat} {m : Fun3} {sp : Sp} {t : TA}
theorem run_g {pins : List (Addr × Obj)} {σ : Sl} {H : Hp} {s : Shared} {Q : VK} {args : Args} (I : Inv X pins σ H s) (h : codeAny (model X.prog X.w) X.A (.call (.ref f) args) (CR CX0 X.stack X.prog X.w H s Q E0) s) :
    wpAny (model X.prog X.w) X.A (call (.ref f) args.pos args.kw) (EP X pins σ Q) X.xe s := by
  refine wpAny_call (codeAny_mono h fun r s' hq => ?_)
  cases r with
  | error e => exact False.elim hq
  | ok fl =>
    cases fl with
    | ret u => exact I.after hq
    | next => exact False.elim hq
    | brk => exact False.elim hq
    | cont => exact False.elim hq
theorem g_call (G : PosG X.prog X.w X.K X.mg X.base k f sp) (hr : Room k X.A) (hgd : X.A.guards = some []) (hg : Gl X x) (hm : X.mg x = some (.ref f)) (hk : PySem.W.keepIn X.K (.ref f) = true) (ha : PA X (e :: es) t)
    (hdb : (x == ("__debug__" : Str)) = false := by decide) (he : starEach (e :: es) X.env = (false, eval e X.env) :: starEach es X.env := by rfl) (hpl : (backTo pos (starEach es X.env)).any (·.1) = false := by rfl) :
    PE X (.Call (.Name x p) (e :: es) [] pos) (fun σ H Q => t σ H fun vs H1 => sp vs H1 Q E0) := by
  refine ⟨fun pins s σ H Q I h => wpAny_Call_Name_kw (ld_glob I hg hm ?_ hdb)⟩
  refine PySem.W.callWith_K (h₀ := X.base) I.ok.mod.kin hk (thn (ha.run pos pins s σ H _ I h) ?_) he hpl
  intro us s1 ⟨vs, H1, I1, r1, q1⟩
  exact ⟨I1.kIn, run_g (args := ⟨us, []⟩) I1 (G X.A X.stack s1 H1 us vs Q hr hgd I1.env0 r1 q1)⟩
theorem g_call0 (G : PosG X.prog X.w X.K X.mg X.base k f sp) (hr : Room k X.A) (hgd : X.A.guards = some []) (hg : Gl X x) (hm : X.mg x = some (.ref f)) (hk : PySem.W.keepIn X.K (.ref f) = true)
    (hdb : (x == ("__debug__" : Str)) = false := by decide) : PE X (.Call (.Name x p) [] [] pos) (fun σ H Q => sp [] H Q E0) := by
  refine ⟨fun pins s σ H Q I h => wpAny_Call_Name_kw (ld_glob I hg hm ?_ hdb)⟩
  exact PySem.W.callWith_K0 I.kIn hk (run_g (args := ⟨[], []⟩) I (G X.A X.stack s H [] [] Q hr hgd I.env0 .nil h))
theorem g_callK {ks : List Str} {g : {α : Type} → List α → List α} (G : KwG X.prog X.w X.K X.mg X.base k f ks g sp) (hr : Room k X.A) (hgd : X.A.guards = some []) (hg : Gl X x) (hm : X.mg x = some (.ref f)) (hk : PySem.W.keepIn X.K (.ref f) = true) (ha : PK X kws t)
    (hdb : (x == ("__debug__" : Str)) = false := by decide) (hall : (backToKw pos (keywordEach kws X.env)).all (·.1.isSome) = true := by rfl) (hks : (backToKw pos (keywordEach kws X.env)).filterMap (·.1) = ks := by rfl)
    (hpl : ((backTo pos (starEach [] X.env)).any (·.1) || (backToKw pos (keywordEach kws X.env)).any (·.1.isNone)) = false := by rfl) :
    PE X (.Call (.Name x p) [] kws pos) (fun σ H Q => t σ H fun vs H1 => vs.length = ks.length ∧ sp (g vs) H1 Q E0) := by
  refine ⟨fun pins s σ H Q I h => wpAny_Call_Name_kw (ld_glob I hg hm ?_ hdb)⟩
  refine PySem.W.callWith_KW0 (h₀ := X.base) I.ok.mod.kin hk hall (thn (ha.run pos pins s σ H _ I h) ?_) hpl
  intro us s1 ⟨vs, H1, I1, r1, q0, q1⟩
  rw [hks]
  exact ⟨I1.kIn, run_g (args := ⟨[], ks.zip us⟩) I1 (G X.A X.stack s1 H1 us vs Q hr hgd I1.env0 r1 q0 q1)⟩
theorem sp_of {B : Bs} {F : FS} {env : Env3} {w : Wd} {σ : Sl} {H : Hp} {ds : List D} {vs : List V} {Q : VK} (c : Cor M B F env w σ H) (r : RelDs M F H ds vs) (p : Post M F H (if ds.length = n then m ds w else .bad) Q) : Sp3 M n m vs H Q E0 := by
  split at p
  · rename_i hl
    exact ⟨F, w, ds, c.gd.dom, c.gd.world, r, hl, p⟩
  · exact p.elim
theorem e3_call (G : PosG X.prog X.w X.K X.mg X.base k f (Sp3 M n m)) (hr : Room k X.A) (hgd : X.A.guards = some []) (hg : Gl X x) (hm : X.mg x = some (.ref f)) (hk : PySem.W.keepIn X.K (.ref f) = true) (ha : PA X (e :: es) (T3a M fs))
    (hdb : (x == ("__debug__" : Str)) = false := by decide) (he : starEach (e :: es) X.env = (false, eval e X.env) :: starEach es X.env := by rfl) (hpl : (backTo pos (starEach es X.env)).any (·.1) = false := by rfl) :
    PE X (.Call (.Name x p) (e :: es) [] pos) (T3 M (callM m n fs)) := by
  refine PEi (g_call G hr hgd hg hm hk ha hdb he hpl) fun σ H Q h => ?_
  obtain ⟨B, F, env, w, c, p⟩ := h
  exact T3a.mono (T3a.bind' (P := fun r F H => Post M F H r Q) c p (fun _ _ h => h) fun _ _ _ _ _ _ g p => p.grow g) fun vs H1 ⟨F1, w1, ds, g1, c1, r1, p1⟩ => sp_of c1 r1 p1
theorem e3_call0 (G : PosG X.prog X.w X.K X.mg X.base k f (Sp3 M 0 m)) (hr : Room k X.A) (hgd : X.A.guards = some []) (hg : Gl X x) (hm : X.mg x = some (.ref f)) (hk : PySem.W.keepIn X.K (.ref f) = true)
    (hdb : (x == ("__debug__" : Str)) = false := by decide) : PE X (.Call (.Name x p) [] [] pos) (T3 M (callM m 0 anil)) := by
  refine PEi (g_call0 G hr hgd hg hm hk hdb) fun σ H Q h => ?_
  obtain ⟨B, F, env, w, c, p⟩ := h
  exact sp_of (ds := []) c rfl p
theorem PKi {t t' : TA} (h : PK X kws t) (i : ∀ σ H Q, t' σ H Q → t σ H Q) : PK X kws t' := ⟨fun pos pins s σ H Q I q => h.run pos pins s σ H Q I (i _ _ _ q)⟩
theorem e3k_nil : PK X [] (T3a M anil) := PKi pk_nil fun σ H Q h => by
  obtain ⟨B, F, env, w, c, p⟩ := h
  exact p F H [] c.self rfl
theorem e3k_cons {nm : Option Str} {kpos : Pos} {fe : M3 D} (ha : PE X e (T3 M fe)) (hr : PK X kws (T3a M fs)) : PK X (⟨nm, e, kpos⟩ :: kws) (T3a M (acons fe fs)) := by
  refine PKi (pk_cons ha hr) fun σ H Q h => ?_
  obtain ⟨B, F, env, w, c, p⟩ := h
  refine T3.mono (T3.bind' (P := fun r F H => PostA M F H r Q) c p (fun _ _ h => h) fun _ _ _ _ _ _ g p => p.grow g) fun v H1 ⟨F1, w1, d, g1, c1, r1, p1⟩ => ?_
  refine T3a.mono (T3a.bind' (P := fun r F H => PostA M F H r Q) c1 p1 (fun _ _ h => h) fun _ _ _ _ _ _ g p => p.grow g) fun vs H2 ⟨F2, w2, ds, g2, c2, r2, p2⟩ => ?_
  exact p2 F2 H2 _ c2.self ⟨v, vs, rfl, RelD.mono g2.sub g2.ext _ _ r1, r2⟩
theorem e3_callK {ks : List Str} {g : {α : Type} → List α → List α} (G : KwG X.prog X.w X.K X.mg X.base k f ks g (Sp3 M n m)) (hr : Room k X.A) (hgd : X.A.guards = some []) (hg : Gl X x) (hm : X.mg x = some (.ref f)) (hk : PySem.W.keepIn X.K (.ref f) = true) (ha : PK X kws (T3a M fs))
    (hrel : ∀ {F : FS} {H : Hp} {ds : List D} {vs : List V}, RelDs M F H ds vs → RelDs M F H (g ds) (g vs)) (hlen : ∀ ds : List D, (g ds).length = n → ds.length = ks.length)
    (hdb : (x == ("__debug__" : Str)) = false := by decide) (hall : (backToKw pos (keywordEach kws X.env)).all (·.1.isSome) = true := by rfl) (hks : (backToKw pos (keywordEach kws X.env)).filterMap (·.1) = ks := by rfl)
    (hpl : ((backTo pos (starEach [] X.env)).any (·.1) || (backToKw pos (keywordEach kws X.env)).any (·.1.isNone)) = false := by rfl) :
    PE X (.Call (.Name x p) [] kws pos) (T3 M (kwM m n g fs)) := by
  refine PEi (g_callK G hr hgd hg hm hk ha hdb hall hks hpl) fun σ H Q h => ?_
  obtain ⟨B, F, env, w, c, p⟩ := h
  refine T3a.mono (T3a.bind' (P := fun r F H => Post M F H r Q) c p (fun _ _ h => h) fun _ _ _ _ _ _ g p => p.grow g) fun vs H1 ⟨F1, w1, ds, g1, c1, r1, p1⟩ => ?_
  refine ⟨?_, sp_of c1 (hrel r1) p1⟩
  have hl : (g ds).length = n := by
    split at p1
    · assumption
    · exact p1.elim
  rw [← r1.length]; exact hlen ds hl
end
end L3

set_option Elab.async false
set_option linter.all false
set_option maxRecDepth 100000
set_option maxHeartbeats 4000000
/-! L3Deck: the law's deck of numbers: a dict of three texts, its cells a list. -/
namespace L3
open PySem PySem.Spec PyProof.Rows L2

def isDeckAt (env : Env3) (i : Nat) : Bool := match env[i]? with
  | some (some (false, .deck)) => true
  | _ => false
section
variable {M : Ms} {B : Bs} {F : FS} {env : Env3} {w : Wd} {σ : Sl} {H : Hp}
theorem deckAt_of {i : Nat} (h : isDeckAt env i = true) : env[i]? = some (some (false, .deck)) := by
  unfold isDeckAt at h
  split at h
  · assumption
  · cases h
theorem Cor.deck {i : Nat} (c : Cor M B F env w σ H) (h : isDeckAt env i = true) : ∃ p, M.dk = some p ∧ σ[i]? = some (some (.ref p.1)) ∧ H p.1 = some (deckO p.2 w) ∧ H p.2 = some (.lst (w.cells.map V.int)) ∧ ¬ F p.1 ∧ ¬ F p.2 ∧ p.1 ≠ p.2 := by
  obtain ⟨v, hv, p, hp, e⟩ := c.fro i _ (deckAt_of h)
  have hw := c.gd.world p hp
  subst e
  exact ⟨p, hp, hv, hw⟩
/-- the deck's objects are changed -/
theorem Cor.deckPut {p : Addr × Addr} {a : Addr} {o : HO} {w' : Wd} (c : Cor M B F env w σ H) (hp : M.dk = some p) (ha : isDk M a) (hw : WRel M F w' (upd H a o)) : Cor M B F env w' σ (upd H a o) ∧ Mono F H F (upd H a o) := by
  have nf : ¬ F a := fun f => c.gd.world.not f ha
  have ex : Ext F H (upd H a o) := fun b u f e => by
    have hb : b ≠ a := fun z => nf (z ▸ f)
    rw [upd_ne hb]; exact e
  refine ⟨⟨⟨fun b f => ?_, hw, fun b u e n => ?_, c.gd.old, c.gd.sub⟩, c.len, fun j e hj => ?_, fun j e hj => ?_, c.sep⟩, fun _ h => h, ex⟩
  · have hb : b ≠ a := fun z => nf (z ▸ f)
    rw [upd_ne hb]; exact c.gd.dom b f
  · have hb : b ≠ a := fun z => n (z ▸ ha)
    rw [upd_ne hb]; exact c.gd.keep b u e n
  · obtain ⟨u, hu, r⟩ := c.fro j e hj
    exact ⟨u, hu, RelD.mono (fun _ h => h) ex _ _ r⟩
  · obtain ⟨u, hu, b, rfl, nfb, h0b, ndb, ocb⟩ := c.own j e hj
    have hb : b ≠ a := fun z => ndb (z ▸ ha)
    exact ⟨_, hu, b, rfl, nfb, h0b, ndb, ocb.mono (fun _ h => h) ex fun u h => by rw [upd_ne hb]; exact h⟩
theorem deck_keys (c : Addr) (w : Wd) : valV ([((.inr "cells" : Key), .ref c), ((.inr "blend" : Key), .int w.blend), ((.inr "draws" : Key), .int w.draws)] : List (Key × V)) (.inr "cells") = some (.ref c) ∧
    valV ([((.inr "cells" : Key), .ref c), ((.inr "blend" : Key), .int w.blend), ((.inr "draws" : Key), .int w.draws)] : List (Key × V)) (.inr "blend") = some (.int w.blend) ∧
    valV ([((.inr "cells" : Key), .ref c), ((.inr "blend" : Key), .int w.blend), ((.inr "draws" : Key), .int w.draws)] : List (Key × V)) (.inr "draws") = some (.int w.draws) := by
  have n1 : ¬ ((Sum.inr ("cells" : Str) : Key) = Sum.inr ("blend" : Str)) := by intro h; exact absurd (Sum.inr.inj h) (by decide +kernel)
  have n2 : ¬ ((Sum.inr ("cells" : Str) : Key) = Sum.inr ("draws" : Str)) := by intro h; exact absurd (Sum.inr.inj h) (by decide +kernel)
  have n3 : ¬ ((Sum.inr ("blend" : Str) : Key) = Sum.inr ("draws" : Str)) := by intro h; exact absurd (Sum.inr.inj h) (by decide +kernel)
  refine ⟨valV_pos rfl, ?_, ?_⟩
  · rw [valV_neg n1, valV_pos rfl]
  · rw [valV_neg n2, valV_neg n3, valV_pos rfl]
theorem deck_put (c : Addr) (w : Wd) (n : Int) : putK ([((.inr "cells" : Key), .ref c), ((.inr "blend" : Key), .int w.blend), ((.inr "draws" : Key), .int w.draws)] : List (Key × V)) (.inr "draws") (.int n) =
    [((.inr "cells" : Key), .ref c), ((.inr "blend" : Key), .int w.blend), ((.inr "draws" : Key), .int n)] := by
  have n2 : ¬ ((Sum.inr ("cells" : Str) : Key) = Sum.inr ("draws" : Str)) := by intro h; exact absurd (Sum.inr.inj h) (by decide +kernel)
  have n3 : ¬ ((Sum.inr ("blend" : Str) : Key) = Sum.inr ("draws" : Str)) := by intro h; exact absurd (Sum.inr.inj h) (by decide +kernel)
  unfold putK
  rw [if_pos (by simp)]
  simp only [List.map_cons, List.map_nil, if_neg n2, if_neg n3, if_true]
end
def dkInt (i : Nat) (f : Wd → Int) : M3 D := fun env w => if isDeckAt env i then .ok (.int (f w)) w else .bad
section
variable {X : Cx} {M : Ms} {pos p1 p2 cpos apos : Pos} {j : Nat} {o e : Expr} {es : List Expr} {fe : M3 D}
/-- the reading of deck["cells"], for what asks more of it -/
theorem tcells {i : Nat} {σ : Sl} {H : Hp} {Q : VK} {p : Addr × Addr} {w : Wd} (hv : σ[i]? = some (some (.ref p.1))) (hd : H p.1 = some (deckO p.2 w)) (q : Q (.ref p.2) H) : tDGet (tVar i) (tC (.str "cells")) σ H Q :=
  ⟨_, hv, p.1, .ref p.2, rfl, by rw [← (deck_keys p.2 w).1]; exact DGet.k (k := .inr "cells") hd, q⟩
theorem e3_draws {i : Nat} (hu : X.A.units + 1 < cLine) (ho : PE X o (tVar i)) : PE X (.Subscript o (.Constant (.str "draws") j p1) pos) (T3 M (dkInt i (·.draws))) := by
  refine PEi (pe_dget hu ho pe_str (fun _ _ => rfl)) fun σ H Q h => ?_
  obtain ⟨B, F, env, w, c, p⟩ := h
  unfold dkInt at p
  split at p
  · rename_i h
    obtain ⟨q, hq, hv, h1, h2, _⟩ := c.deck h
    exact ⟨_, hv, q.1, .int w.draws, rfl, by rw [← (deck_keys q.2 w).2.2]; exact DGet.k (k := .inr "draws") h1, Post.val c p rfl⟩
  · exact p.elim
theorem e3_blend {i : Nat} (hu : X.A.units + 1 < cLine) (ho : PE X o (tVar i)) : PE X (.Subscript o (.Constant (.str "blend") j p1) pos) (T3 M (dkInt i (·.blend))) := by
  refine PEi (pe_dget hu ho pe_str (fun _ _ => rfl)) fun σ H Q h => ?_
  obtain ⟨B, F, env, w, c, p⟩ := h
  unfold dkInt at p
  split at p
  · rename_i h
    obtain ⟨q, hq, hv, h1, h2, _⟩ := c.deck h
    exact ⟨_, hv, q.1, .int w.blend, rfl, by rw [← (deck_keys q.2 w).2.1]; exact DGet.k (k := .inr "blend") h1, Post.val c p rfl⟩
  · exact p.elim
/-- deck["draws"] = e -/
def sDraws (i : Nat) (fe : M3 D) : St3 := fun env w => match fe env w with
  | .ok (.int n) w' => if isDeckAt env i then .nx env { w' with draws := n } else .bad
  | _ => .bad
theorem s3_draws {i : Nat} (hu : X.A.units + 1 < cLine) (ho : PE X o (tVar i)) (he : PE X e (T3 M fe)) (hs : swapsWith e (some (.Subscript o (.Constant (.str "draws") j p1) p2)) pos.line X.env = pure false := by rfl) :
    PS X (.Assign [.Subscript o (.Constant (.str "draws") j p1) p2] e pos) (TS3 M (sDraws i fe)) := by
  refine PSi (ps_dput hu ho pe_str he hs) fun D0 σ H h => ?_
  obtain ⟨B, F, env, w, c, p⟩ := h
  refine ⟨B, F, env, w, c, ?_⟩
  unfold sDraws at p
  cases ef : fe env w with
  | bad => rw [ef] at p; exact p
  | ok d w' =>
    rw [ef] at p
    cases d with
    | int n =>
      dsimp only at p
      intro F' H' v g r
      have r : v = .int n := r
      subst r
      have c' := c.grow g
      split at p
      · rename_i h
        obtain ⟨q, hq, hv, h1, h2, f1, f2, ne⟩ := c'.deck h
        refine ⟨_, hv, q.1, upd H' q.1 (deckO q.2 { w' with draws := n }), rfl, ?_, ?_⟩
        · have := DPut.k (k := (.inr "draws" : Key)) (v := .int n) h1 (by rw [sizeLine_eq]; show 3 < 16777216; decide)
          rw [deck_put] at this
          exact this
        · obtain ⟨c2, m2⟩ := c'.deckPut (a := q.1) (o := deckO q.2 { w' with draws := n }) (w' := { w' with draws := n }) hq ⟨q, hq, .inl rfl⟩ (fun q' e => by
            rw [hq] at e; cases e
            exact ⟨upd_same, by rw [upd_ne ne.symm]; exact h2, f1, f2, ne⟩)
          exact p F' σ _ c2 (g.mono.trans m2)
      · exact p.elim
    | _ => exact p.elim
/-- deck["cells"] != [] -/
def tCells (i : Nat) : M3 Bool := fun env w => if isDeckAt env i && decide (w.cells.length ≤ 1000) then .ok (!w.cells.isEmpty) w else .bad
theorem dp_ints {K : PySem.W.Frag} {H : Hp} : ∀ ns : List Int, DpAll K H (ns.map V.int) (ns.map PyData.int)
  | [] => .nil
  | n :: r => .cons (.int n) (dp_ints r)
theorem shaped_ints (ns : List Int) : SeqAt.shaped (.list (ns.map PyData.int)) = true := by
  have h1 : ∀ l : List Int, PyData.canLayAll0 (l.map PyData.int) = true := by
    intro l
    induction l with
    | nil => rfl
    | cons n r ih => simp only [List.map_cons, PyData.canLayAll0, ih, PyData.canLay0, Bool.and_self]
  have h2 : ∀ l : List Int, PyData.depthAll (l.map PyData.int) = 0 := by
    intro l
    induction l with
    | nil => rfl
    | cons n r ih => simp only [List.map_cons, PyData.depthAll, ih, PyData.depth]; rfl
  unfold SeqAt.shaped
  simp only [PyData.canLay0, h1, PyData.depth, h2]
  rfl
theorem e3_cells {i : Nat} (hu : X.A.units + 1 < cLine) (hu2 : X.A.units + 64 < cLine) (ho : PE X o (tVar i)) : PT X (.Compare (.Subscript o (.Constant (.str "cells") j p1) p2) [.NotEq] [.List [] apos] pos) (T3t M (tCells i)) := by
  refine PTi (pt_cmpR (op_neD hu2) (pe_dget hu ho pe_str (fun _ _ => rfl)) (pe_lst pa_nil) (nomark _)) fun σ H Q h => ?_
  obtain ⟨B, F, env, w, c, p⟩ := h
  unfold tCells at p
  split at p
  · rename_i h
    rw [Bool.and_eq_true] at h
    obtain ⟨q, hq, hv, h1, h2, f1, f2, ne⟩ := c.deck h.1
    refine tcells hv h1 ⟨by decide, fun a ha => ?_⟩
    have na1 := ne_of_none h1 ha
    have na2 := ne_of_none h2 ha
    refine ⟨.list (w.cells.map PyData.int), .list [], ?_, ?_, shaped_ints _, rfl, _, rfl, ?_⟩
    · exact .lst (.of (by rw [upd_ne na2]; exact h2)) (dp_ints _)
    · exact .lst (.of upd_same) .nil
    · have g : Grow M F H F w (upd H a (.lst [])) := by
        refine ⟨fun _ h => h, fun b o e n => by rw [upd_ne (ne_of_none e ha)]; exact e, fun _ f _ => f, fun b f => ?_, fun q' e => ?_⟩
        · have hb : b ≠ a := fun z => c.gd.dom b f (z ▸ ha)
          rw [upd_ne hb]; exact c.gd.dom b f
        · obtain ⟨k1, k2, k3, k4, k5⟩ := c.gd.world q' e
          exact ⟨by rw [upd_ne (ne_of_none k1 ha)]; exact k1, by rw [upd_ne (ne_of_none k2 ha)]; exact k2, k3, k4, k5⟩
      have z := p F _ g
      have e : (!PyData.eqv (.list (w.cells.map PyData.int)) (.list [])) = !w.cells.isEmpty := by
        cases w.cells with
        | nil => rfl
        | cons n r => rfl
      rw [e]
      exact z
  · exact p.elim
/-- x = deck["cells"].pop() -/
def sPop (i k : Nat) : St3 := fun env w => if isDeckAt env i && decide (k < env.length) then (match w.cells.getLast? with
  | some n => .nx (env.set k (some (false, .int n))) { w with cells := w.cells.dropLast }
  | none => .bad) else .bad
theorem s3_pop {i k : Nat} {x : Str} {px : Pos} (hN : X.N.Nodup) (hu : X.A.units + 1 < cLine) (ho : PE X o (tVar i)) (hK : M.K = X.K := by rfl) (hi : X.N[k]? = some x := by rfl) (hx : Loc X.env.scope x := by first | exact Or.inl rfl | exact Or.inr rfl)
    (hbase : attributeBase (.Subscript o (.Constant (.str "cells") j p1) p2) "pop" X.env (eval (.Subscript o (.Constant (.str "cells") j p1) p2) X.env) = eval (.Subscript o (.Constant (.str "cells") j p1) p2) X.env := by rfl) (hline : (apos.endLine == cpos.line) = true := by rfl)
    (hs : swapsWith (.Call (.Attribute (.Subscript o (.Constant (.str "cells") j p1) p2) "pop" apos) [] [] cpos) (some (.Name x px)) pos.line X.env = pure false := by rfl)
    (hf : X.fn x = true ∨ X.env.scope.names.lookup x = some .local := by first | exact .inl rfl | exact .inr rfl | assumption) :
    PS X (.Assign [.Name x px] (.Call (.Attribute (.Subscript o (.Constant (.str "cells") j p1) p2) "pop" apos) [] [] cpos) pos) (TS3 M (sPop i k)) := by
  refine PSi (ps_set hN hi hx (pe_bm0 PySem.F.plainAttrs_list PySem.F.slot_list_pop PySem.F.type_list_pop mt_pop (pe_dget hu ho pe_str (fun _ _ => rfl)) hbase hline) hs hf) fun D0 σ H h => ?_
  obtain ⟨B, F, env, w, c, p⟩ := h
  unfold sPop at p
  split at p
  · rename_i h
    rw [Bool.and_eq_true] at h
    obtain ⟨q, hq, hv, h1, h2, f1, f2, ne⟩ := c.deck h.1
    cases el : w.cells.getLast? with
    | none => rw [el] at p; exact p.elim
    | some n =>
      rw [el] at p
      refine tcells hv h1 ⟨.inl ⟨rfl, _, .of h2⟩, q.2, w.cells.map V.int, .int n, rfl, rfl, h2, ?_, ?_⟩
      · rw [List.getLast?_eq_getElem?] at el
        rw [List.length_map, List.getElem?_map, el]
        rfl
      · obtain ⟨c2, m2⟩ := c.deckPut (a := q.2) (o := .lst (w.cells.map V.int).dropLast) (w' := { w with cells := w.cells.dropLast }) hq ⟨q, hq, .inr rfl⟩ (fun q' e => by
          rw [hq] at e; cases e
          exact ⟨by rw [upd_ne ne]; exact h1, by rw [upd_same]; show some (HO.lst (List.map V.int w.cells).dropLast) = some (HO.lst (List.map V.int w.cells.dropLast)); rw [List.map_dropLast], f1, f2, ne⟩)
        exact p F _ _ (c2.setF (d := .int n) rfl k) m2
  · exact p.elim
/-- deck["cells"].append(e) -/
def sPush (i : Nat) (fe : M3 D) : St3 := fun env w => if isDeckAt env i then (match fe env w with
  | .ok (.int n) w' => if w'.cells.length < 1000 then .nx env { w' with cells := w'.cells ++ [n] } else .bad
  | _ => .bad) else .bad
theorem s3_push {i : Nat} (hu : X.A.units + 1 < cLine) (ho : PE X o (tVar i)) (he : PE X e (T3 M fe)) (hse : starEach [e] X.env = (false, eval e X.env) :: starEach [] X.env := by rfl)
    (hbase : attributeBase (.Subscript o (.Constant (.str "cells") j p1) p2) "append" X.env (eval (.Subscript o (.Constant (.str "cells") j p1) p2) X.env) = eval (.Subscript o (.Constant (.str "cells") j p1) p2) X.env := by rfl)
    (hfew : ((backTo cpos (starEach [e] X.env)).all (fun x => !x.1) && (backToKw cpos (keywordEach [] X.env)).all (fun x => x.1.isSome)
      && decide ([e].length + ([] : List Keyword).length + (if ([] : List Keyword).isEmpty then 0 else 1) < 30)) = true := by rfl)
    (hline : (apos.endLine == cpos.line) = true := by rfl) (hplain : (backTo cpos (starEach [] X.env)).any (·.1) = false := by rfl)
    (hs : swapsWith (.Call (.Attribute (.Subscript o (.Constant (.str "cells") j p1) p2) "append" apos) [e] [] cpos) none pos.line X.env = pure false := by rfl) :
    PS X (.Expr (.Call (.Attribute (.Subscript o (.Constant (.str "cells") j p1) p2) "append" apos) [e] [] cpos) pos) (TS3 M (sPush i fe)) := by
  refine PSi (ps_expr (pe_bm PySem.F.plainAttrs_list PySem.F.slot_list_append PySem.F.type_list_append mt_append (pe_dget hu ho pe_str (fun _ _ => rfl)) (pa_cons he pa_nil hse) hbase hfew hline hse hplain) hs) fun D0 σ H h => ?_
  obtain ⟨B, F, env, w, c, p⟩ := h
  unfold sPush at p
  split at p
  · rename_i h
    obtain ⟨q, hq, hv, h1, h2, f1, f2, ne⟩ := c.deck h
    refine tcells hv h1 ⟨.inl ⟨rfl, _, .of h2⟩, B, F, env, w, c, ?_⟩
    cases ef : fe env w with
    | bad => rw [ef] at p; exact p.elim
    | ok d w' =>
      rw [ef] at p
      intro F' H' v g r
      cases d with
      | int n =>
        have r : v = .int n := r
        subst r
        dsimp only at p
        have c' := c.grow g
        obtain ⟨k1, k2, k3, k4, k5⟩ := c'.gd.world q hq
        split at p
        · rename_i hl
          refine ⟨q.2, _, .int n, rfl, rfl, k2, by rw [List.length_map]; exact Nat.lt_trans hl (by decide), ?_⟩
          obtain ⟨c2, m2⟩ := c'.deckPut (a := q.2) (o := .lst (w'.cells.map V.int ++ [.int n])) (w' := { w' with cells := w'.cells ++ [n] }) hq ⟨q, hq, .inr rfl⟩ (fun q' e => by
            rw [hq] at e; cases e
            exact ⟨by rw [upd_ne ne]; exact k1, by rw [upd_same]; show some (HO.lst (List.map V.int w'.cells ++ [V.int n])) = some (HO.lst (List.map V.int (w'.cells ++ [n]))); rw [List.map_append]; rfl, k3, k4, ne⟩)
          exact p F' σ _ c2 (g.mono.trans m2)
        · exact p.elim
      | _ => exact p.elim
  · exact p.elim
end
end L3

set_option Elab.async false
set_option linter.all false
set_option maxRecDepth 100000
set_option maxHeartbeats 4000000
/-! L3More: repr, isinstance, how many unlike texts, lists turned about, the signs of a text. -/
namespace L3
open PySem PySem.Spec PyProof.Rows L2

/-! ### repr -/
def rRepr (K : PySem.W.Frag) : List V → Hp → VK → Prop := fun vs H Q => ∃ (a : Addr) (x : PyData), vs = [.ref a] ∧ Dp K H (.ref a) x ∧ x.showable = true ∧ x.hasDict = false ∧ x.depth ≤ 60 ∧ x.shown.length ≤ sizeLine ∧ Q (.str x.shown) H
theorem call_reprD {X : Cx} (hg : X.A.guards = some []) (hu : X.A.units + 64 < cLine) : CallR X (.builtin "repr") (rRepr X.K) := by
  intro pins s σ H xs us Q I r h
  obtain ⟨a, x, rfl, hx, h1, h2, h3, h4, q⟩ := h
  obtain ⟨u, rfl, ru⟩ := vals1 r
  obtain rfl : u = Value.ref a := ru
  obtain ⟨as, rd⟩ := Dp.reads I x _ _ hx rfl
  refine repr_of_reads' rd h1 (fun z => by rw [h2] at z; cases z) hg (by omega) (fun _ _ e => e) (fun h' u tk hk => ?_) h4
  exact ⟨.str x.shown, H, I.kept hk, ⟨_, rfl⟩, q⟩
@[irreducible] def dRepr : List D → Option D
  | [.lst l] => (pd (.lst l)).bind fun x => if x.showable && !x.hasDict && decide (x.depth ≤ 60) && decide (x.shown.length ≤ SL) then some (.str x.shown) else none
  | [.tup l] => (pd (.tup l)).bind fun x => if x.showable && !x.hasDict && decide (x.depth ≤ 60) && decide (x.shown.length ≤ SL) then some (.str x.shown) else none
  | _ => none
theorem lift_repr {M : Ms} {K : PySem.W.Frag} (hK : M.K = K) : LiftC M (rRepr K) dRepr := by
  subst hK
  intro B F env w σ H ds d vs Q c r e p
  have key : ∀ (d0 : D) (v : V) (a : Addr) (x : PyData), RelB M F H env σ d0 v → v = .ref a → pd d0 = some x → (if x.showable && !x.hasDict && decide (x.depth ≤ 60) && decide (x.shown.length ≤ SL) then some (D.str x.shown) else none) = some d → rRepr M.K [v] H Q := by
    intro d0 v a x r0 ev ep e2
    subst ev
    split at e2
    · rename_i hh
      cases e2
      simp only [Bool.and_eq_true, Bool.not_eq_true', decide_eq_true_eq] at hh
      exact ⟨a, x, rfl, c.dp r0 ep, hh.1.1.1, hh.1.1.2, hh.1.2, by rw [SL_eq]; exact hh.2, Post.val c p rfl⟩
    · cases e2
  unfold dRepr at e
  split at e
  · rename_i l
    obtain ⟨v, rfl, r0⟩ := r.one
    obtain ⟨a, xs, ev, _⟩ := c.lst r0
    cases ep : pd (.lst l) with
    | none => rw [ep] at e; cases e
    | some x =>
      rw [ep] at e
      exact key _ v a x r0 ev ep e
  · rename_i l
    obtain ⟨v, rfl, r0⟩ := r.one
    obtain ⟨a, xs, ev, _⟩ := c.tup r0
    cases ep : pd (.tup l) with
    | none => rw [ep] at e; cases e
    | some x =>
      rw [ep] at e
      exact key _ v a x r0 ev ep e
  · cases e

/-! ### isinstance(x, T), T a built-in class -/
def dTy : D → Option String
  | .non => some "NoneType"
  | .bl _ => some "bool"
  | .int _ => some "int"
  | .str _ => some "str"
  | .tup _ => some "tuple"
  | .lst _ => some "list"
  | .dic _ => some "dict"
  | _ => none
def isiT (T : String) (t : String) : Bool := t == T || (t == "bool" && T == "int")
def dIsi (T : String) (d : D) : Option D := (dTy d).map fun t => .bl (isiT T t)
def misi (T : String) (f : M3 D) : M3 D := f.bind fun d => .opt (dIsi T d)
theorem sqT_type {K : PySem.W.Frag} {F : FS} {H : Hp} {a : Addr} {xs : List V} (h : SqT3 K F H a xs) : TyX K H (.ref a) (.type "tuple") := by
  rcases h with ⟨_, h⟩ | (h | h)
  · exact .base (.tup h)
  · rcases h with h | ⟨o, h⟩ <;> cases h
  · obtain ⟨o, its, n, h1, h2, _⟩ := h
    exact .kTuple h1 h2
theorem Cor.ty {M : Ms} {B : Bs} {F : FS} {env : Env3} {w : Wd} {σ : Sl} {H : Hp} {d : D} {v : V} {t : String} (c : Cor M B F env w σ H) (r : RelB M F H env σ d v) (e : dTy d = some t) : TyX M.K H v (.type t) := by
  cases d with
  | non => cases e; rw [c.non r]; exact .base .non
  | bl b => cases e; rw [c.bl r]; exact .base (.bl b)
  | int i => cases e; rw [c.int r]; exact .base (.int i)
  | str s => cases e; rw [c.str r]; exact .base (.str s)
  | tup ds => cases e; obtain ⟨a, xs, rfl, h, _⟩ := c.tup r; exact sqT_type h
  | lst ds => cases e; obtain ⟨a, xs, rfl, h, _⟩ := c.lst r; exact .base (.lst h)
  | dic kvs =>
    cases e
    rcases r with ⟨a, rfl, _, h⟩ | ⟨i, e1, e2⟩
    · rcases h with ⟨ps, h, _⟩ | ⟨ps, h, _⟩
      · exact .base (.dK h)
      · exact .base (.dT h)
    · obtain ⟨v', e3, a, rfl, _, _, _, h⟩ := c.own i _ e1
      rw [e2] at e3; cases e3
      rcases h with ⟨ps, h, _⟩ | ⟨ps, h, _⟩
      · exact .base (.dK h)
      · exact .base (.dT h)
  | _ => cases e
theorem kitB_all (T : String) (hT : T = "str" ∨ T = "int" ∨ T = "bool" ∨ T = "tuple" ∨ T = "list") (d : D) (t : String) (e : dTy d = some t) {K : PySem.W.Frag} : PySem.W.kitOne K (.type t) (.type T) = some (isiT T t) := by
  refine kit_ty ?_
  cases d <;> cases e <;> rcases hT with rfl | rfl | rfl | rfl | rfl <;> decide +kernel
section
variable {X : Cx} {M : Ms} {e : Expr} {f : M3 D} {p pt pos : Pos}
theorem e3_isi (T : String) {nT : Str} (hg : Gl X "isinstance") (hm : X.mg "isinstance" = none) (hgT : Gl X nT) (hmT : X.mg nT = none) (hvT : bootBuiltins nT = some (.type T)) (hT : T = "str" ∨ T = "int" ∨ T = "bool" ∨ T = "tuple" ∨ T = "list") (he : PE X e (T3b M f)) (hK : M.K = X.K := by rfl)
    (hn : nT ≠ "__name__" := by decide) (hd : (nT == ("__debug__" : Str)) = false := by decide)
    (hs : starEach (e :: [.Name nT pt]) X.env = (false, eval e X.env) :: starEach [.Name nT pt] X.env := by rfl) (hs2 : starEach [.Name nT pt] X.env = (false, eval (.Name nT pt) X.env) :: starEach [] X.env := by rfl) (hpl : (backTo pos (starEach [.Name nT pt] X.env)).any (·.1) = false := by rfl) :
    PE X (.Call (.Name "isinstance" p) [e, .Name nT pt] [] pos) (T3 M (misi T f)) := by
  refine PEi (pe_callB call_isi hg hm boot_isinstance (pa_cons he (pa_cons (pe_bltn (v := .ty T) hgT hmT hvT rfl hn hd) pa_nil hs2) hs) (by decide) (by decide) hs hpl) fun σ H Q h => ?_
  obtain ⟨B, F, env, w, c, p⟩ := h
  refine T3b.mono (T3b.bind c p) fun v H1 ⟨F1, w1, d, g1, c1, r1, p1⟩ => ?_
  unfold M3.opt at p1
  cases ed : dIsi T d with
  | none => rw [ed] at p1; exact p1.elim
  | some x =>
    rw [ed] at p1
    unfold dIsi at ed
    cases et : dTy d with
    | none => rw [et] at ed; cases ed
    | some t =>
      rw [et] at ed
      cases ed
      exact ⟨v, .ty T, .type t, .type T, isiT T t, rfl, .ty T, by rw [← hK]; exact c1.ty r1 et, kitB_all T hT d t et, Post.val c1 p1 rfl⟩
end

/-! ### a set of texts, made of a list: how many there are -/
/-- each once, the first one kept -/
def once {α : Type} [DecidableEq α] (l : List α) : List α := l.foldl (fun acc k => if k ∈ acc then acc else acc ++ [k]) []
theorem once_snoc {α : Type} [DecidableEq α] (l : List α) (k : α) : once (l ++ [k]) = if k ∈ once l then once l else once l ++ [k] := by
  unfold once
  rw [List.foldl_append]
  rfl
theorem mem_once {α : Type} [DecidableEq α] (l : List α) (k : α) : k ∈ once l ↔ k ∈ l := by
  have : ∀ (n : Nat) (l : List α), l.length = n → (k ∈ once l ↔ k ∈ l) := by
    intro n
    induction n with
    | zero => intro l h; rw [List.eq_nil_of_length_eq_zero h]; exact Iff.rfl
    | succ n ih =>
      intro l h
      have hne : l ≠ [] := fun z => by rw [z] at h; cases h
      obtain ⟨r, x, rfl⟩ : ∃ r x, l = r ++ [x] := ⟨l.dropLast, l.getLast hne, (List.dropLast_concat_getLast hne).symm⟩
      have hl : r.length = n := by simpa using h
      rw [once_snoc]
      have := ih r hl
      split
      · rename_i hx
        rw [this]
        simp only [List.mem_append, List.mem_singleton]
        constructor
        · exact fun h => .inl h
        · rintro (h | h)
          · exact h
          · subst h
            have z : ∀ m (l : List α), l.length = m → ∀ y, y ∈ once l → y ∈ l := by
              intro m
              induction m with
              | zero => intro l h y hy; rw [List.eq_nil_of_length_eq_zero h] at hy; exact absurd hy (by simp [once])
              | succ m ihm =>
                intro l h y hy
                have hne : l ≠ [] := fun z => by rw [z] at h; cases h
                obtain ⟨r, x, rfl⟩ : ∃ r x, l = r ++ [x] := ⟨l.dropLast, l.getLast hne, (List.dropLast_concat_getLast hne).symm⟩
                rw [once_snoc] at hy
                have hl : r.length = m := by simpa using h
                split at hy
                · exact List.mem_append_left _ (ihm r hl y hy)
                · rcases List.mem_append.mp hy with hy | hy
                  · exact List.mem_append_left _ (ihm r hl y hy)
                  · exact List.mem_append_right _ hy
            exact z _ r rfl _ hx
      · rw [List.mem_append, List.mem_append, this]
  exact this l.length l rfl
theorem once_length_le {α : Type} [DecidableEq α] (l : List α) : (once l).length ≤ l.length := by
  have : ∀ (n : Nat) (l : List α), l.length = n → (once l).length ≤ l.length := by
    intro n
    induction n with
    | zero => intro l h; rw [List.eq_nil_of_length_eq_zero h]; exact Nat.le_refl _
    | succ n ih =>
      intro l h
      have hne : l ≠ [] := fun z => by rw [z] at h; cases h
      obtain ⟨r, x, rfl⟩ : ∃ r x, l = r ++ [x] := ⟨l.dropLast, l.getLast hne, (List.dropLast_concat_getLast hne).symm⟩
      have hl : r.length = n := by simpa using h
      have := ih r hl
      rw [once_snoc]
      split
      · simp; omega
      · simp; omega
  exact this l.length l rfl
section
variable {prog : Program} {w : World} {K : Type} [DecidableEq K] {knd : KeyKind prog w K}
abbrev SetL (knd : KeyKind prog w K) (h : Heap) (a : Addr) (l : List K) : Prop := h.SetOf knd a (fun k => decide (k ∈ l)) (once l).length
theorem setL_next {h' : Heap} {a : Addr} {l : List K} {k : K} (hS : h'.SetOf knd a (fun j => decide (j ∈ l) || decide (j = k)) (if decide (k ∈ l) = true then (once l).length else (once l).length + 1)) : SetL knd h' a (l ++ [k]) := by
  have e1 : (fun j => decide (j ∈ l) || decide (j = k)) = fun j => decide (j ∈ l ++ [k]) := by
    funext j
    rw [Bool.eq_iff_iff]
    simp
  have e2 : (if decide (k ∈ l) = true then (once l).length else (once l).length + 1) = (once (l ++ [k])).length := by
    rw [once_snoc]
    by_cases hk : k ∈ l
    · rw [if_pos (by simpa using hk), if_pos ((mem_once l k).mpr hk)]
    · rw [if_neg (by simpa using hk), if_neg (fun z => hk ((mem_once l k).mp z)), List.length_append]
      rfl
  rw [e1, e2] at hS
  exact hS
/-- what is drawn is put into the set, one after another -/
theorem set_fills {A : Around} {R : Result → Shared → Prop} {I : Addr} {fp wr : List Addr} {G : Array GenState → Array GenState → Prop} {n : Nat} {P : Nat → Value → Prop} {St : Nat → Shared → Prop}
    (W : WalksS prog w A.in1 I fp wr G n P St) (S : Addr) (nS : S ∉ fp) (l : List K) (hl : l.length = n) (hn : n + 1 < scanBound) (scan : ∀ i v, P i v → v.scannable = true ∧ ∃ k, l[i]? = some k ∧ knd.is k v = true) :
    ∀ (left i : Nat) (s : Shared), n - i = left → i ≤ n → St i s → SetL knd s.heap S (l.take i) → (∀ s', Moved (S :: wr) G s s' → SetL knd s'.heap S l → R (.ok (.ret .none)) s') →
      codeAny (model prog w) A (.builtin "set.update.loop" ⟨[.ref S, .ref I], []⟩) R s := by
  have nW : S ∉ wr := fun z => nS (W.sub _ z)
  have more : ∀ b ∈ wr, b ∈ S :: wr := fun b hb => .tail _ hb
  have carry : ∀ {s s' : Shared} {ks : List K}, SetL knd s.heap S ks → Moved wr G s s' → SetL knd s'.heap S ks := fun {s s' ks} ⟨o, es, ep, t, ho, rest⟩ hm => ⟨o, es, ep, t, hm.heap S _ nW ho, rest⟩
  intro left
  induction left with
  | zero =>
    intro i s hk hi hst hS hR
    obtain rfl : i = n := by omega
    refine codeAny_builtin F.entry_set_update_loop ?_
    rw [Around.under_plainId F.plain_set_update_loop _]
    show wpAny _ A.in1 (pyNext (.ref I) >>= _) _ _ s
    refine wpAny_bind (W.done s _ _ hst fun s' hm => wpAny_pure ?_)
    refine hR s' (hm.mono more) (carry ?_ hm)
    rwa [List.take_of_length_le (by omega)] at hS
  | succ left ih =>
    intro i s hk hi hst hS hR
    have lt : i < n := by omega
    refine codeAny_builtin F.entry_set_update_loop ?_
    rw [Around.under_plainId F.plain_set_update_loop _]
    show wpAny _ A.in1 (pyNext (.ref I) >>= _) _ _ s
    refine wpAny_bind (W.item i s _ _ lt hst fun v s1 hP hst1 hm => ?_)
    obtain ⟨hsc, k, hk1, hk2⟩ := scan i v hP
    show wpAny _ A.in1 (holding [v] (setAdd S v) >>= _) _ _ s1
    refine wpAny_bind (wpAny_holding ?_)
    unfold setAdd
    refine wpAny_holding (wpAny_bind (knd.pyHash hk2 ?_))
    have hlen : (once (l.take i)).length + 1 < scanBound := by
      have := once_length_le (l.take i)
      rw [List.length_take] at this
      omega
    refine wpAny_setAddHashed_of (knd := knd) hk2 hsc (show SetL knd s1.heap S (l.take i) from carry hS hm) hlen fun h2 sb hS2 => ?_
    have full := setL_next hS2
    have ht : l.take i ++ [k] = l.take (i + 1) := by
      obtain ⟨q1, q2⟩ := List.getElem?_eq_some_iff.mp hk1
      rw [List.take_succ_eq_append_getElem q1, q2]
    rw [ht] at full
    refine wpAny_pure ⟨plainId_quiet F.plain_set_update_loop _, ih (i + 1) _ (by omega) lt (W.frame _ s1 _ _ hst1 (Nat.le_succ _) fun b hb o e => ?_) full fun s3 m3 hS3 => hR s3 (Moved.trans W.gtrans ((hm.mono more).then_heap (Nat.le_succ _) fun b o hb e => ?_) m3) hS3⟩
    · have hb' : b ≠ S := fun z => nS (z ▸ hb)
      exact (sb.2 b hb').trans e
    · have hb' : b ≠ S := fun z => hb (z ▸ List.mem_cons_self)
      exact (sb.2 b hb').trans e
end

section
variable {prog : Program} {w : World} {A : Around} {E : Value → Shared → Prop} {s : Shared} {K : Type} [DecidableEq K] {knd : KeyKind prog w K}
abbrev set0 (led : Bool) : Obj := { cls := .type "set", dict := none, data := .set #[] 0 (.fresh 0 0 led) }
set_option maxHeartbeats 6400000 in
theorem call_setL {l : Addr} {its : Array Value} {ks : List K} {Q : Value → Shared → Prop} (calm : A.handled = none) (isl : s.heap.IsList l its) (ofK : ∀ (i : Nat) (v : Value), its[i]? = some v → v.scannable = true ∧ ∃ k, ks[i]? = some k ∧ knd.is k v = true)
    (sz : ks.length = its.size) (few : its.size + 1 < scanBound)
    (q : ∀ (h2 : Heap) (tk : Nat), SetL knd h2 s.heap.objs.size ks → (∀ b o, b < s.heap.objs.size → s.heap.get? b = some o → h2.get? b = some o) → Q (.ref s.heap.objs.size) { s with heap := h2, toks := tk }) :
    wpAny (model prog w) A (call (.type "set") [.ref l]) Q E s := by
  obtain ⟨c, tl, mroS⟩ := PySem.F.called_set.mro
  have madeS := PySem.F.called_set.made
  have subS := PySem.F.called_set.sub
  refine wpAny_call (codeAny_of_tree (show wpAny _ _ (callAny (.type "set") _) _ _ _ from wpAny_pure ⟨Code.quiet_builtin _ (by decide +kernel), codeAny_builtin PySem.F.entry_type_call ?_⟩))
  rw [Around.under_plain (weight_type_call_type "set" [.ref l] []) rfl]
  have f1 := PySem.F.called_set.notType
  have f2 := PySem.F.called_set.canCreate
  have f3 := PySem.F.typeCall_set_1 (.ref l)
  repeat (any_goals (first | assumption | wp_step))
  refine codeAny_mono (code_set_new_1 (.ref l) (E := E) (Q₁ := fun obj s1 => ∃ led : Bool, obj = .ref s.heap.objs.size ∧ s1 = { s with heap := s.heap.push (set0 led) }) fun led => ⟨led, rfl, rfl⟩) fun r s1 hr => ?_
  cases r with
  | error e => exact hr
  | ok fl =>
    cases fl with
    | ret obj =>
      obtain ⟨led, rfl, rfl⟩ := hr
      have atS : (s.heap.push (set0 led)).get? s.heap.objs.size = some (set0 led) := Heap.get?_push_size _ rfl
      have tyS : Shared.TypeIs { s with heap := s.heap.push (set0 led) } (.ref s.heap.objs.size) "set" := ⟨_, atS, rfl⟩
      have f4 := PySem.F.called_set.init.lookup
      have f5 := PySem.F.called_set.init.bind (.ref s.heap.objs.size)
      repeat (any_goals (first | assumption | wp_step))
      refine codeAny_mono (codeAny_call_builtin (R := wants (fun r s2 => r = .none ∧ ∃ h2 tk, s2 = { s with heap := h2, toks := tk } ∧ SetL knd h2 s.heap.objs.size ks ∧ (∀ b o, b < s.heap.objs.size → s.heap.get? b = some o → h2.get? b = some o)) E)
        PySem.F.called_set.init.plain PySem.F.entry_set_init (check_set_init_1 tyS ?_)) fun r2 s2 hr2 => ?_
      · obtain ⟨ol, eol, cl, nl, dl⟩ := isl
        obtain ⟨ocls, odict, odata, oslots⟩ := ol
        simp only at cl dl
        subst cl dl
        have eol2 : (s.heap.push (set0 led)).get? l = some { cls := .type "list", dict := odict, data := .seq its nl, slots := oslots } := Heap.get?_push_of_some _ eol
        have g1 := PySem.F.sub_list_set
        have g2 := PySem.F.sub_list_frozenset
        have g3 : (Value.type "list" == Value.type "dict") = false := by decide
        have isl2 : (s.heap.push (set0 led)).IsList l its := ⟨_, eol2, rfl, nl, rfl⟩
        unfold Builtin.«set.__init__» noKeywords Builtin.Frozenset.updateFrom
        generalize itr : pyIter = PI
        wp_walk
        subst itr
        refine wpAny_pyIter_list isl2 (wpAny_bind (wpAny_runValue ?_))
        have lS : l < s.heap.objs.size := Heap.lt_size eol
        have calm3 : A.in1.in1.in1.handled = none := by simp [calm]
        have n1 : l ≠ (s.heap.push (set0 led)).objs.size := by rw [Heap.size_push]; exact Nat.ne_of_lt (Nat.lt_succ_of_lt lS)
        have n2 : s.heap.objs.size ∉ [(s.heap.push (set0 led)).objs.size, l] := by
          rw [Heap.size_push]
          simp only [List.mem_cons, List.not_mem_nil, or_false, not_or]
          exact ⟨Nat.ne_of_lt (Nat.lt_succ_self _), Nat.ne_of_gt lS⟩
        refine set_fills (knd := knd) ((Walks.list calm3 _ l n1 its).toS) s.heap.objs.size n2 ks sz few ofK (its.size - 0) 0 _ (by omega) (Nat.zero_le _) ⟨⟨_, Heap.get?_push_size _ rfl, rfl, rfl⟩, (isl2.push _)⟩ ?first ?last
        case first =>
          have at2 : ((s.heap.push (set0 led)).push { cls := .type "list_iterator", data := .fields #[.ref l, .int 0 0] }).get? s.heap.objs.size = some (set0 led) := Heap.get?_push_of_some _ atS
          exact PyProof.Rows.SetOf_congr ((PyProof.Rows.setObjOf_fresh (knd := knd) led).setOf at2 (by unfold scanBound; omega)) (fun _ => rfl) rfl
        case last =>
          intro s3 m3 hS3
          obtain ⟨h3, gens3, drawn3, tk3, os3⟩ := s3
          obtain rfl : gens3 = s.gens := m3.gens
          obtain rfl : drawn3 = s.drawn := m3.drawn
          obtain rfl : os3 = s.os := m3.os
          refine wpAny_pure (show wpAny _ _ (ret Value.none) _ _ _ from wpAny_pure ⟨rfl, h3, tk3, rfl, hS3, fun b o hb e => ?_⟩)
          refine m3.heap b o ?_ (Heap.get?_push_of_some _ (Heap.get?_push_of_some _ e))
          simp only [List.mem_cons, List.not_mem_nil, or_false, not_or]
          exact ⟨Nat.ne_of_lt hb, by rw [Heap.size_push]; exact Nat.ne_of_lt (Nat.lt_succ_of_lt hb)⟩
      · cases r2 with
        | error e => exact hr2
        | ok fl2 =>
          cases fl2 with
          | ret r =>
            obtain ⟨rfl, h2, tk, rfl, hS2, keep2⟩ := hr2
            repeat (any_goals (first | assumption | wp_step))
            exact q _ _ hS2 keep2
          | _ => exact hr2.elim
    | _ => exact hr.elim
end
/-- len(set(xs)), xs a list of texts -/
def dLenSet (d : D) : Option D := match d with
  | .lst ds => (strsD ds).bind fun ys => if ys.length ≤ 1000 then some (.int (once ys).length) else none
  | _ => none
def mlenSet (f : M3 D) : M3 D := f.bind fun d => .opt (dLenSet d)
theorem strs_at : ∀ {ys : List Str} {us : List Value}, Vals (ys.map V.str) us → ∀ (i : Nat) (v : Value), us[i]? = some v → ∃ (y : Str) (t : Tok), ys[i]? = some y ∧ v = Value.str y t := by
  intro ys
  induction ys with
  | nil =>
    intro us r i v e
    cases r
    simp at e
  | cons y ys ih =>
    intro us r i v e
    cases r with
    | cons r1 r2 =>
      obtain ⟨t, rfl⟩ := r1
      cases i with
      | zero =>
        simp at e
        exact ⟨y, t, rfl, e.symm⟩
      | succ i =>
        obtain ⟨z, t', h1, h2⟩ := ih r2 i v (by simpa using e)
        exact ⟨z, t', by simpa using h1, h2⟩
section
variable {X : Cx} {M : Ms} {e : Expr} {f : M3 D} {p p2 q pos : Pos}
theorem e3_lenSet (hc : X.calm = true) (hg : Gl X "len") (hm : X.mg "len" = none) (hg2 : Gl X "set") (hm2 : X.mg "set" = none) (he : PE X e (T3b M f))
    (na : starEach [e] X.env = (false, eval e X.env) :: starEach [] X.env := by rfl) : PE X (.Call (.Name "len" p) [.Call (.Name "set" p2) [e] [] q] [] pos) (T3 M (mlenSet f)) := by
  refine ⟨fun pins s σ H Q I h => ?_⟩
  obtain ⟨B, F, env, w, c, pp⟩ := h
  refine Call_ (ld_blt I hg hm boot_len (PyProof.Rows.callWith_builtin1 (PyProof.Rows.args_cons (Call_ (ld_blt I hg2 hm2 boot_set ?_)) rfl) rfl rfl))
  refine PyProof.Rows.callWith_type1 (PyProof.Rows.args_cons (thn (he.run pins s σ H _ I (T3b.bind c pp)) fun v s1 ⟨x, H1, I1, r1, q1⟩ => PyProof.Rows.args_nil ?_) na) na rfl
  obtain ⟨F1, w1, d, g1, c1, rb, p1⟩ := q1
  unfold M3.opt at p1
  cases ed : dLenSet d with
  | none => rw [ed] at p1; exact p1.elim
  | some z =>
    rw [ed] at p1
    unfold dLenSet at ed
    split at ed
    · rename_i ds
      cases es : strsD ds with
      | none => rw [es] at ed; cases ed
      | some ys =>
        rw [es] at ed
        dsimp only [Option.bind] at ed
        split at ed
        · rename_i hl
          cases ed
          obtain ⟨a, xs, rfl, ha, rr⟩ := c1.lst rb
          cases r1
          have ex := strsD_rel es rr
          subst ex
          obtain ⟨its, rv, pl, hz⟩ := I1.list (.of ha)
          have hsz : ys.length = its.toArray.size := by rw [List.size_toArray, ← rv.length, List.length_map]
          refine call_setL (knd := strKind X.prog X.w) (ks := ys) (I1.ok.hd hc) pl.isList (fun i v hv => ?_) hsz (by rw [← hsz]; unfold scanBound; omega) fun h2 tk hS keep => ?_
          · obtain ⟨y, t, h1, rfl⟩ := strs_at rv i v (by simpa using hv)
            exact ⟨rfl, y, h1, by first | rfl | simp [strKind, Value.isStrOf] | exact strKind_is _ _ _ _⟩
          · refine PyProof.Rows.args_nil ?_
            obtain ⟨o, es', ep, t, ho, hex, hd, _, _, _, hf, hn⟩ := hS
            have I2 : Inv X pins σ H1 { s1 with heap := h2, toks := tk } := I1.kept fun b o e => keep b o (Heap.lt_size e) e
            have hle := once_length_le ys
            refine call_len_set ho hex hd hf (by rw [hn]; omega) ⟨.int (once ys).length, H1, I2.tok _, ⟨_, by rw [hn]⟩, Post.val c1 p1 rfl⟩
        · cases ed
    · cases ed
end

/-! ### xs[::-1]; list(text); the signs of a text -/
def dRevL : D → Option D
  | .lst ds => some (.lst ds.reverse)
  | _ => none
def mrevL (f : M3 D) : M3 D := f.bind fun d => .opt (dRevL d)
section
variable {X : Cx} {M : Ms} {e : Expr} {f : M3 D} {k : Nat} {p1 p2 p3 pos : Pos}
theorem e3_revL (he : PE X e (T3b M f)) : PE X (.Subscript e (.Slice none none (some (.UnaryOp .USub (.Constant (.int 1) k p1) p2)) p3) pos) (T3 M (mrevL f)) := by
  refine PEi (pe_revL he) fun σ H Q h => ?_
  obtain ⟨B, F, env, w, c, p⟩ := h
  refine T3b.mono (T3b.bind c p) fun v H1 ⟨F1, w1, d, g1, c1, r1, p1⟩ => ?_
  unfold M3.opt at p1
  cases ed : dRevL d with
  | none => rw [ed] at p1; exact p1.elim
  | some z =>
    rw [ed] at p1
    unfold dRevL at ed
    split at ed
    · cases ed
      obtain ⟨a, xs, rfl, h1, r4⟩ := c1.lst r1
      exact ⟨a, xs, rfl, .of h1, fun q hq => Post.lst c1 r4.reverse p1 hq⟩
    · cases ed
end
def sgn (c : Nat) : Str := ⟨#[c]⟩
def rListS : List V → Hp → VK → Prop := fun vs H Q => ∃ z : Str, vs = [.str z] ∧ z.length ≤ sizeLine ∧ ∀ l, H l = none → Q (.ref l) (upd H l (.lst (z.cps.toList.map fun c => V.str (sgn c))))
theorem vals_signs {x : Str} {acc : Array Value} (h : ItemsOf (SignAt x) acc x.cps.size) : Vals (x.cps.toList.map fun c => V.str (sgn c)) acc.toList := by
  have key : ∀ (l : List Nat) (us : List Value), us.length = l.length → (∀ (i : Nat) (v : Value), us[i]? = some v → ∃ (c : Nat) (u : Tok), l[i]? = some c ∧ v = Value.str ⟨#[c]⟩ u) → Vals (l.map fun c => V.str (sgn c)) us := by
    intro l
    induction l with
    | nil => intro us h1 _; rw [List.eq_nil_of_length_eq_zero h1]; exact .nil
    | cons c l ih =>
      intro us h1 h2
      cases us with
      | nil => cases h1
      | cons u us =>
        obtain ⟨c', t, e1, e2⟩ := h2 0 u rfl
        simp at e1
        subst e1
        exact .cons ⟨t, e2⟩ (ih us (by simpa using h1) fun i v e => by simpa using h2 (i + 1) v (by simpa using e))
  refine key _ _ ?_ fun i v e => ?_
  · rw [Array.length_toList, h.1]; simp
  · obtain ⟨c, u, e1, e2⟩ := h.2 i v (by rw [← Array.getElem?_toList]; exact e)
    exact ⟨c, u, by rw [Array.getElem?_toList]; exact e1, e2⟩
theorem call_listS {X : Cx} (hc : X.calm = true) : CallR X (.type "list") rListS := by
  intro pins s σ H xs us Q I r h
  obtain ⟨z, rfl, hz, q⟩ := h
  obtain ⟨u, rfl, t, rfl⟩ := vals1 r
  refine call_list_str (I.ok.hd hc) z t (fun h' tk acc c' keep at' items => ?_) hz
  refine ⟨.ref s.heap.objs.size, _, I.laid (o := .lst (z.cps.toList.map fun c => V.str (sgn c))) (t' := tk) keep (Nat.le_refl _) ⟨?_, acc.toList, c', vals_signs items, ?_⟩, rfl, q _ (I.hok.fresh (Nat.le_refl _))⟩
  · rw [List.length_map, Array.length_toList]; exact hz
  · rw [at', Array.toArray_toList]
def dListS : List D → Option D
  | [.str z] => if z.length ≤ SL then some (.lst (z.cps.toList.map fun c => .str (sgn c))) else none
  | _ => none
theorem RelDs.signs {M : Ms} {F : FS} {H : Hp} : ∀ l : List Nat, RelDs M F H (l.map fun c => .str (sgn c)) (l.map fun c => V.str (sgn c))
  | [] => rfl
  | c :: l => ⟨_, _, rfl, rfl, RelDs.signs l⟩
theorem lift_listS {M : Ms} : LiftC M rListS dListS := by
  intro B F env w σ H ds d vs Q c r e p
  unfold dListS at e
  split at e
  · split at e
    · rename_i hl
      cases e
      obtain ⟨v, rfl, r0⟩ := r.one
      exact ⟨_, by rw [c.str r0], by rw [SL_eq]; exact hl, fun l hl => Post.lst c (RelDs.signs _) p hl⟩
    · cases e
  · cases e
def istr (f : M3 D) : M3 (List D) := f.bind fun d => match d with
  | .str z => M3.ret (z.cps.toList.map fun c => .str (sgn c))
  | _ => fun _ _ => .bad
section
variable {X : Cx} {M : Ms} {tg e : Expr} {f : M3 D}
theorem i3_str (he : PE X e (T3 M f)) : PI X tg e (T3i M (istr f)) := by
  refine PIi (pi_str he) fun σ H R h => ?_
  refine t3i_of h fun B F env w d v H1 c r p => ?_
  cases d with
  | str z =>
    refine ⟨z, r, p F H1 _ c.self fun i F2 H2 w2 m hd hw => ⟨fun hl => ?_, fun d hd2 => ?_⟩⟩
    · show z.cps.size ≤ i
      simpa using hl
    · rw [List.getElem?_map] at hd2
      cases ec : z.cps.toList[i]? with
      | none => rw [ec] at hd2; cases hd2
      | some k =>
        rw [ec] at hd2
        cases hd2
        have hk : z.cps[i]? = some k := by rw [← Array.getElem?_toList]; exact ec
        refine ⟨(Array.getElem?_eq_some_iff.mp hk).1, fun x H' ⟨e1, k', e2, e3⟩ => ?_⟩
        subst e1
        rw [hk] at e2
        cases e2
        exact ⟨F2, .refl hd hw, e3⟩
  | _ => exact p.elim
end
end L3

set_option Elab.async false
set_option linter.all false
set_option maxRecDepth 100000
set_option maxHeartbeats 4000000
/-! L3End: some further rules; a law's own head and end. -/
namespace L3
open PySem PySem.Spec PyProof.Rows L2

section
variable {X : Cx} {M : Ms} {e : Expr} {f : M3 D} {pos : Pos}
def dNeg : D → Option D
  | .int i => some (.int (-i))
  | _ => none
def mneg (f : M3 D) : M3 D := f.bind fun d => .opt (dNeg d)
theorem e3_neg (he : PE X e (T3b M f)) : PE X (.UnaryOp .USub e pos) (T3 M (mneg f)) := by
  refine PEi (pe_un un_neg he) fun σ H Q h => ?_
  obtain ⟨B, F, env, w, c, p⟩ := h
  refine T3b.mono (T3b.bind c p) fun v H1 ⟨F1, w1, d, g1, c1, r1, p1⟩ => ?_
  unfold M3.opt at p1
  cases ed : dNeg d with
  | none => rw [ed] at p1; exact p1.elim
  | some z =>
    rw [ed] at p1
    unfold dNeg at ed
    split at ed
    · cases ed
      exact ⟨_, c1.int r1, Post.val c1 p1 rfl⟩
    · cases ed
theorem new_obj {B : Bs} {F : FS} {env : Env3} {w : Wd} {σ : Sl} {H : Hp} {a : Addr} {o : HO} (c : Cor M B F env w σ H) (ha : H a = none) : Grow M F H F w (upd H a o) ∧ ¬ F a ∧ ¬ isDk M a := by
  have nf : ¬ F a := fun z => c.gd.dom a z ha
  refine ⟨⟨fun _ h => h, fun b u e n => by rw [upd_ne (ne_of_none e ha)]; exact e, fun _ f _ => f, fun b f => ?_, fun q e => ?_⟩, nf, fresh_dk c.gd.world ha⟩
  · have hb : b ≠ a := fun z => nf (z ▸ f)
    rw [upd_ne hb]; exact c.gd.dom b f
  · obtain ⟨h1, h2, h3, h4, h5⟩ := c.gd.world q e
    exact ⟨by rw [upd_ne (ne_of_none h1 ha)]; exact h1, by rw [upd_ne (ne_of_none h2 ha)]; exact h2, h3, h4, h5⟩
theorem e3n_dict0 : PE X (.Dict [] [] pos) (T3n M (cst (.dic []))) := by
  refine PEi pe_dnewK fun σ H Q h => ?_
  obtain ⟨B, F, env, w, c, p⟩ := h
  intro a ha
  obtain ⟨g, nf, nd⟩ := new_obj (o := .dK []) c ha
  exact p F _ a g nf ha nd (.inl ⟨[], upd_same, rfl⟩)
theorem e3_dict0 : PE X (.Dict [] [] pos) (T3 M (cst (.dic []))) := n3 e3n_dict0 (by intro env w c ds w' h; cases h)
/-- x = [.. for ..] on one line -/
theorem s3_setLc {i : Nat} {y : Str} {py : Pos} {elt tg iter : Expr} {ifs : List Expr} {scope : Scope} {own : List (Str × Nat)} {spos : Pos} {it : M3 (List D)} {g : G3} {t : M3 Bool} {f : M3 D} (hc : X.calm = true) (hN : X.N.Nodup) (hi : PI X tg iter (T3i M it)) (ok : BlkOk X.N X.env.scope scope own)
    (hg : ∀ (s : Shared) (H : Hp) (C : Addr) (cl : List (Str × Addr)) (fp : List Addr), PG (X.blk s H scope (compEnvC scope cl C X.env) fp) tg (T3g M g (own.map (·.2)))) (ht : ∀ (s : Shared) (H : Hp) (C : Addr) (cl : List (Str × Addr)) (fp : List Addr), PTs (X.blk s H scope (compEnvC scope cl C X.env) fp) ifs (T3t M t))
    (he : ∀ (s : Shared) (H : Hp) (C : Addr) (cl : List (Str × Addr)) (fp : List Addr), PE (X.blk s H scope (compEnvC scope cl C X.env) fp) elt (T3 M f)) (hy : X.N[i]? = some y := by rfl) (hyl : X.env.scope.names.lookup y = some .local := by rfl)
    (hsw : swapsWith (.ListComp elt [⟨tg, iter, ifs, 0⟩] scope pos) (some (.Name y py)) spos.line X.env = pure true := by exact sw_true rfl rfl rfl (by decide +kernel)) (hs : ∀ x, foldedSetIterable iter X.env x = pure x := by intro _; rfl) :
    PS X (.Assign [.Name y py] (.ListComp elt [⟨tg, iter, ifs, 0⟩] scope pos) spos) (TS3 M (sasg (mlc it g t f (own.map (·.2))) (gn i))) := by
  refine PSi (ps_setLc hc hN hy hyl hsw hi ok hg ht he hs) fun D0 σ H h => tlc_of _ _ _ ?_
  obtain ⟨B, F, env, w, c, p⟩ := h
  refine ⟨B, F, env, w, c, ?_⟩
  unfold sasg at p
  cases ef : mlc it g t f (own.map (·.2)) env w with
  | bad => rw [ef] at p; exact p
  | ok d w' =>
    rw [ef] at p
    dsimp only at p
    intro F' H' a gr nf ha nd oc
    obtain ⟨o, ho⟩ := oc.there
    have g2 := gr.freeze ha nd (by rw [ho]; exact fun z => by cases z)
    have hd : ∀ c ds, d = .obj c ds → (M.nm c).length = ds.length := by
      intro c ds e
      subst e
      unfold mlc at ef
      cases h1 : it env w with
      | bad => rw [h1] at ef; cases ef
      | ok a b =>
        rw [h1] at ef
        dsimp only at ef
        cases h2 : lcL g t f (own.map (·.2)) a env b [] with
        | bad => rw [h2] at ef; cases ef
        | ok x y => rw [h2] at ef; cases ef
    have r := oc.rel hd
    unfold gn at p
    split at p
    · rename_i env' ee
      split at ee
      · cases ee
        exact p _ _ H' ((c.grow g2).setF r i) g2.mono
      · cases ee
    · exact p.elim
end

/-! ### the law's call -/
theorem callerA_guards : callerA.guards = some [] := rfl
/-- THE HEAD: from the promise of the law's def, with guards told, to its call behind the top -/
theorem law_callG {P : Program} {w : World} {K : PySem.W.Frag} {mg mb : Str → Option Value} {k : Nat} {fa a : Addr} {fd : FuncData} {x : Str} {sp : Sp} {s1 : Shared} {vs : List Value} {ns : List Int}
    (kx : K.In s1.heap) (gl : s1.heap.Ns mainGlobals mg) (bl : s1.heap.Ns builtinsNs mb) (blt : ∀ x : Str, x ≠ "__name__" → mb x = bootBuiltins x) (unl : s1.heap.NoLimit) (gens : s1.gens = #[])
    (at_ : s1.heap.get? a = some { cls := .type "list", data := .seq vs.toArray }) (intz : IntsAre vs ns) (size : ns.length ≤ sizeLine) (room : Room k callerA)
    (G : ∀ base : Heap, K.In base → base.Ns mainGlobals mg → FnG P w K mg base k fa fd [x] sp) (bind : ∀ (s : Shared) (u : Value), BindsTo s fd ⟨[u], []⟩ [(x, u)])
    (prom : ∀ H : Hp, Only H → SqL K H a (ns.map V.int) → sp [.ref a] H (fun v _ => v = .bl true) E0) :
    codeAny (model P w) callerA (.call (.ref fa) ⟨[.ref a], []⟩) (fun r s' => r = .ok (.ret (.bool true)) ∧ OldK s1.heap s'.heap ∧ s'.os = s1.os ∧ AllBare s'.gens) s1 := by
  have rel := vals_ints intz
  have lenV := intz.length
  have from_ : ∀ H : Hp, Only H → SqL K H a (ns.map V.int) → HOk P w H s1.heap → (∀ b, H b ≠ none → b = a) → (H a ≠ none → K.lookup a = none) →
      codeAny (model P w) callerA (.call (.ref fa) ⟨[.ref a], []⟩) (fun r s' => r = .ok (.ret (.bool true)) ∧ OldK s1.heap s'.heap ∧ s'.os = s1.os ∧ AllBare s'.gens) s1 := by
    intro H only list ok one notK
    have dict_free : ∀ {b : Addr} {o : Obj} {es : Array DictEntry} {ep : Nat}, s1.heap.get? b = some o → o.data = .dict es ep → H b = none := by
      intro b o es ep e d
      cases q : H b with
      | none => rfl
      | some u =>
        obtain rfl : b = a := one b (by rw [q]; simp)
        rw [at_] at e
        cases e
        cases (show Data.seq vs.toArray _ = Data.dict es ep from d)
    have ns_ : ∀ {b : Addr} {m : Str → Option Value}, s1.heap.Ns b m → (hidT s1.heap H).Ns b m := fun {b m} ⟨o, es, ep, e, d, r⟩ => ⟨o, es, ep, hidT_get e (dict_free e d), d, r⟩
    have kb : K.In (hidT s1.heap H) := fun b o e => hidT_get (kx b o e) (by
      cases q : H b with
      | none => rfl
      | some u =>
        obtain rfl : b = a := one b (by rw [q]; simp)
        rw [notK (by rw [q]; simp)] at e
        cases e)
    have md : Mod K mg (hidT s1.heap H) := ⟨kb, ns_ gl, ⟨mb, ns_ bl, blt⟩, let ⟨mc, h1, h2⟩ := unl; ⟨mc, ns_ h1, h2⟩⟩
    have e0 : Env0 P w K mg (hidT s1.heap H) callerA [] s1 H := ⟨rfl, md, fun b o e => of_hidT e, Nat.le_of_eq (hidT_size _ _), trivial, fun b hb => absurd (show b ∈ ([] : List Addr) from hb) (by simp), ok, .of_eq gens⟩
    refine codeAny_mono (G _ kb (ns_ gl) callerA [] s1 H ⟨[.ref a], []⟩ [.ref a] [.ref a] _ room callerA_guards e0 rfl (bind s1 (.ref a)) (.cons rfl .nil) (prom H only list)) fun r s' h => ?_
    cases r with
    | error e => exact False.elim h
    | ok fl =>
      cases fl with
      | next => exact False.elim h
      | brk => exact False.elim h
      | cont => exact False.elim h
      | ret u =>
        obtain ⟨v, H', os, bare, un, ok', rv, q⟩ := h
        obtain rfl : v = .bl true := q
        obtain rfl : u = Value.bool true := rv
        refine ⟨rfl, OldK.of_keep fun b o e => ?_, os, bare⟩
        cases q : H b with
        | none => exact un.keep b o e q (by intro z; exact absurd (show b ∈ ([] : List Addr) from z) (by simp)) (by simp)
        | some u =>
          rcases only b with z | ⟨ob, xs, z⟩
          · rw [q] at z; cases z
          · obtain ⟨e1, _⟩ := ok b _ z
            obtain ⟨e2, _⟩ := ok' b _ (un.frzs b ob _ z)
            rw [e] at e1
            cases e1
            exact e2
  cases hk : K.lookup a with
  | some o =>
    have e := kx a o hk
    rw [at_] at e
    cases e
    exact from_ (fun _ => none) (fun _ => .inl rfl) (.inr ⟨_, vs.toArray, _, hk, rfl, rfl, rfl, by rw [List.size_toArray, lenV]; exact size, by simpa using rel⟩) (fun b u z => nomatch z) (fun b z => absurd rfl z) fun z => absurd rfl z
  | none =>
    refine from_ (fun b => if b = a then some (.frz { cls := .type "list", data := .seq vs.toArray } (.lst (ns.map V.int))) else none) (fun b => ?_) (.inl (.inr ⟨{ cls := .type "list", data := .seq vs.toArray }, if_pos rfl⟩)) (fun b u z => ?_) (fun b z => ?_) fun _ => hk
    · by_cases hb : b = a
      · exact .inr ⟨_, _, if_pos hb⟩
      · exact .inl (if_neg hb)
    · by_cases hb : b = a
      · have z' := (if_pos hb).symm.trans z
        cases z'
        subst hb
        exact ⟨at_, by rw [List.length_map]; exact size, vs, _, rel, at_⟩
      · have z' := (if_neg hb).symm.trans z
        cases z'
    · by_cases hb : b = a
      · exact hb
      · exact absurd (if_neg hb) z
theorem walkG {l : PySem.W.OpenLaw} {n k : Nat} {q : Program} {loose : List Str} {XP : (Str → Option Value) → Heap → Prop} {YP : World → Heap → Prop} {d : DefRec} {K : Params → PySem.W.Frag} {sp : PySem.W.Frag → Sp} {x : Str}
    (hn : l.most = some n) (hn2 : n ≤ sizeLine) (hdf : d.params.defaults = []) (room : Room k callerA) (hY : ∀ (w : World) (h : Heap), YP w h → (K w.params).In h)
    (G : ∀ (w : World) (mg : Str → Option Value) (fa : Addr) (h : Heap), (K w.params).In h → h.Ns mainGlobals mg → mg d.name = some (.ref fa) →
      ∃ fd : FuncData, (∀ (s : Shared) (u : Value), BindsTo s fd ⟨[u], []⟩ [(x, u)]) ∧ ∀ base : Heap, (K w.params).In base → base.Ns mainGlobals mg → FnG l.prog w (K w.params) mg base k fa fd [x] (sp (K w.params)))
    (prom : ∀ (K : PySem.W.Frag) (H : Hp) (a : Addr) (ns : List Int), ns.length ≤ n → Only H → SqL K H a (ns.map V.int) → sp K [.ref a] H (fun v _ => v = .bl true) E0) :
    PySem.W.WalkO q loose XP YP l.row.toRowW d [] (fun f vs => PySem.call f vs) := by
  refine Att.attach_call hn hdf fun w s0 s1 mg mb fa o pm cd doc a vs ns Gr Y ho hd hcd hmg hobj hints hlen hg => ?_
  have kx := hY w _ Y
  obtain ⟨fd, hb, hG⟩ := G w mg fa _ kx Gr.T.g hmg
  exact law_callG kx Gr.T.g Gr.T.b Gr.T.builtins Gr.T.nolimit hg hobj hints (Nat.le_trans hlen hn2) room hG hb fun H hO hS => prom (K w.params) H a ns hlen hO hS
end L3

set_option Elab.async false
set_option linter.all false
set_option maxRecDepth 100000
set_option maxHeartbeats 4000000
/-! L3Gen: what the printed derivations lean on: defs with a star parameter, keywords put in order. -/
namespace L3
open PySem PySem.Spec PyProof.Rows L2

def dAddI : D → D → Option D
  | .int i, .int j => some (.int (i + j))
  | _, _ => none
theorem lift_add0 {M : Ms} : Lift2 M (rI0 fun i j => .int (i + j)) dAddI := lift_int0 fun x y d e => by
  unfold dAddI at e
  split at e
  · cases e; exact ⟨_, _, rfl, rfl, fun _ _ => rfl⟩
  · cases e

theorem mlc_lst {it : M3 (List D)} {g : G3} {t : M3 Bool} {f : M3 D} {vs : List Nat} {env : Env3} {w w' : Wd} {d : D} (h : mlc it g t f vs env w = .ok d w') : ∃ ds, d = .lst ds := by
  unfold mlc at h
  cases h1 : it env w with
  | bad => rw [h1] at h; cases h
  | ok a b =>
    rw [h1] at h
    dsimp only at h
    cases h2 : lcL g t f vs a env b [] with
    | bad => rw [h2] at h; cases h
    | ok x y => rw [h2] at h; cases h; exact ⟨_, rfl⟩
theorem e3_lcV {X : Cx} {M : Ms} {elt tg iter : Expr} {ifs : List Expr} {scope : Scope} {own : List (Str × Nat)} {pos : Pos} {it : M3 (List D)} {g : G3} {t : M3 Bool} {f : M3 D} (hc : X.calm = true) (hN : X.N.Nodup) (hi : PI X tg iter (T3i M it)) (ok : BlkOk X.N X.env.scope scope own)
    (hg : ∀ (s : Shared) (H : Hp) (C : Addr) (cl : List (Str × Addr)) (fp : List Addr), PG (X.blk s H scope (compEnvC scope cl C X.env) fp) tg (T3g M g (own.map (·.2)))) (ht : ∀ (s : Shared) (H : Hp) (C : Addr) (cl : List (Str × Addr)) (fp : List Addr), PTs (X.blk s H scope (compEnvC scope cl C X.env) fp) ifs (T3t M t))
    (he : ∀ (s : Shared) (H : Hp) (C : Addr) (cl : List (Str × Addr)) (fp : List Addr), PE (X.blk s H scope (compEnvC scope cl C X.env) fp) elt (T3 M f)) (hs : ∀ x, foldedSetIterable iter X.env x = pure x := by intro _; rfl) :
    PE X (.ListComp elt [⟨tg, iter, ifs, 0⟩] scope pos) (T3 M (mlc it g t f (own.map (·.2)))) :=
  n3 (e3_lc hc hN hi ok hg ht he hs) fun env w c ds w' h => by obtain ⟨z, e⟩ := mlc_lst h; cases e

/-! ### == and != -/
def dEqA : D → D → Option D
  | .str i, .str j => some (.bl (decide (i = j)))
  | .int i, .int j => some (.bl (decide (i = j)))
  | x, y => dEq x y
def dNeA : D → D → Option D
  | .str i, .str j => some (.bl (!decide (i = j)))
  | .int i, .int j => some (.bl (!decide (i = j)))
  | x, y => dNe x y
def rEqA (K : PySem.W.Frag) : R2 := fun x y H Q => rEq x y H Q ∨ rEqD K x y H Q
def rNeA (K : PySem.W.Frag) : R2 := fun x y H Q => rNe x y H Q ∨ rNeD K x y H Q
theorem op_eqA {X : Cx} (hu : X.A.units + 64 < cLine) : OpR X (compareOp .Eq) (rEqA X.K) := OpR.or op_eq (op_eqD hu)
theorem op_neA {X : Cx} (hu : X.A.units + 64 < cLine) : OpR X (compareOp .NotEq) (rNeA X.K) := OpR.or op_ne (op_neD hu)
theorem lift_eqA {M : Ms} {K : PySem.W.Frag} (hK : M.K = K) : Lift2 M (rEqA K) dEqA := by
  intro B F env w σ H dx dy d x y Q c rx ry e p
  unfold dEqA at e
  split at e
  · rename_i i j
    cases e
    have hx := c.str rx
    have hy := c.str ry
    subst hx hy
    refine .inl ⟨rfl, ?_⟩
    have z : decide (V.str i = V.str j) = decide (i = j) := by simp
    rw [z]
    exact p F H _ c.self rfl
  · rename_i i j
    cases e
    have hx := c.int rx
    have hy := c.int ry
    subst hx hy
    refine .inl ⟨rfl, ?_⟩
    have z : decide (V.int i = V.int j) = decide (i = j) := by simp
    rw [z]
    exact p F H _ c.self rfl
  · exact .inr (lift_eq hK B F env w σ H _ _ d x y Q c rx ry e p)
theorem lift_neA {M : Ms} {K : PySem.W.Frag} (hK : M.K = K) : Lift2 M (rNeA K) dNeA := by
  intro B F env w σ H dx dy d x y Q c rx ry e p
  unfold dNeA at e
  split at e
  · rename_i i j
    cases e
    have hx := c.str rx
    have hy := c.str ry
    subst hx hy
    refine .inl ⟨rfl, ?_⟩
    have z : decide (V.str i = V.str j) = decide (i = j) := by simp
    rw [z]
    exact p F H _ c.self rfl
  · rename_i i j
    cases e
    have hx := c.int rx
    have hy := c.int ry
    subst hx hy
    refine .inl ⟨rfl, ?_⟩
    have z : decide (V.int i = V.int j) = decide (i = j) := by simp
    rw [z]
    exact p F H _ c.self rfl
  · exact .inr (lift_ne hK B F env w σ H _ _ d x y Q c rx ry e p)

/-! ### keywords -/
def kwP {α : Type} (p : List Nat) (l : List α) : List α := if l.length = p.length then p.filterMap (fun i => l[i]?) else []
theorem kwP_rel {M : Ms} {F : FS} {H : Hp} (p : List Nat) {ds : List D} {vs : List V} (r : RelDs M F H ds vs) : RelDs M F H (kwP p ds) (kwP p vs) := by
  unfold kwP
  rw [r.length]
  split
  · rename_i hl
    clear hl
    induction p with
    | nil => exact rfl
    | cons i p ih =>
      rw [List.filterMap_cons, List.filterMap_cons]
      cases e : ds[i]? with
      | some d =>
        obtain ⟨v, q, rv⟩ := r.get e
        rw [q]
        exact ⟨_, _, rfl, rv, ih⟩
      | none =>
        have hv : vs[i]? = none := by
          rw [List.getElem?_eq_none_iff] at e ⊢
          rw [← r.length]; exact e
        rw [hv]
        exact ih
  · exact rfl
theorem Vals.get : ∀ {vs : List V} {us : List Value} (i : Nat), Vals vs us → (∀ v, vs[i]? = some v → ∃ u, us[i]? = some u ∧ RelV v u) ∧ (vs[i]? = none → us[i]? = none)
  | _, _, i, .nil => ⟨fun v e => (by simp at e), fun _ => by simp⟩
  | _, _, 0, .cons h t => ⟨fun v e => by cases e; exact ⟨_, rfl, h⟩, fun e => by cases e⟩
  | _, _, i + 1, .cons h t => by
    have := Vals.get i t
    exact ⟨fun v e => this.1 v e, fun e => this.2 e⟩
theorem kwP_vals (p : List Nat) {vs : List V} {us : List Value} (r : Vals vs us) : Vals (kwP p vs) (kwP p us) := by
  unfold kwP
  rw [r.length]
  split
  · rename_i hl
    clear hl
    induction p with
    | nil => exact .nil
    | cons i p ih =>
      rw [List.filterMap_cons, List.filterMap_cons]
      cases e : vs[i]? with
      | some d =>
        obtain ⟨v, q, rv⟩ := (Vals.get i r).1 d e
        rw [q]
        exact .cons rv ih
      | none =>
        rw [(Vals.get i r).2 e]
        exact ih
  · exact .nil
theorem kwP_len {p : List Nat} {n : Nat} (hn : 0 < n) (hp : p.length = n) (ds : List D) (h : (kwP p ds).length = n) : ds.length = n := by
  unfold kwP at h
  split at h
  · omega
  · have : (0 : Nat) = n := h
    omega

/-! ### def f(*v) -/
def starM (m : Fun3) : Fun3 := fun ds w => m [.tup ds] w
def BindStar (x qual : Str) (st : Stmt) (pv : Str) : Prop := ∀ (kV doc pm cdv ct : Value) (an : Option Addr) (rest : List Value),
  bindArgs (PySem.W.fnOf x qual (defArgs st) (defBody st) (defScope st) .none kV doc pm an cdv ct) ⟨rest, []⟩ = (newTuple rest >>= fun t => pure [(pv, t)])
section
variable {P : Program} {w : World} {K : PySem.W.Frag} {mg : Str → Option Value} {base : Heap} {M : Ms}
theorem fnStar3 {k : Nat} {x qual pv : Str} {st : Stmt} {f : Addr} {fd : FuncData} {N : List Str} {g : St3} (Fn : Fun K x qual st f fd) (S : FnScope N [pv] (defScope st)) (hb : BindStar x qual st pv)
    (hbody : ∀ (cdv : Value) (A : Around) (outer : List Env) (s : Shared) (H : Hp) (E : XK), Room k (A.deeper (envOfC qual (defScope st) s.heap.objs.size f cdv)) → PSs (cxOf CX0 P w K mg base N qual (defScope st) f cdv A outer s H E).nox (defBody st) (TS3 M g))
    (n : Nat) (hn : n ≤ SL) : PosG P w K mg base (k + 1) f (Sp3 M n (starM (defM N.length g))) := by
  obtain ⟨oc, od, kV, doc, pm, an, cdv, ct, osl, efd, look, code⟩ := Fn.ex
  subst efd
  have hN : 1 ≤ N.length := by have := congrArg List.length S.pre; rw [List.length_take] at this; simp at this; omega
  refine (FnR.posG (StX.fn_star (ps := []) (k := k) (N := N) (CX := CX0) (P := P) (w := w) (mg := mg) (base := base) (sp := fun vs H Q E => Sp3 M 1 (defM N.length g) vs H Q E) look code S (fun _ _ _ _ _ _ _ _ _ _ _ z => z) (fun us rest hl => ?_) fun A outer s H vs Q E hr h => ⟨_, (hbody cdv A outer s H E hr).nox, ts_start hN h⟩)).imp fun vs H Q E h => ?_
  · cases us with
    | nil => exact hb kV doc pm cdv ct an rest
    | cons a b => cases hl
  · obtain ⟨F, wd, ds, hd, hw, r, hl, p⟩ := h
    refine ⟨[], vs, rfl, rfl, ?_, fun p0 hp0 => ?_⟩
    · rw [← r.length, hl, SL_eq]; exact hn
    · have gr := Grow.new (o := .tup vs) hd hw hp0
      refine ⟨_, wd, [.tup ds], gr.dom, gr.world, ⟨V.ref p0, [], rfl, ⟨p0, vs, rfl, .inl ⟨.inr rfl, upd_same⟩, r.mono gr.sub gr.ext⟩, rfl⟩, rfl, ?_⟩
      exact Post.grow gr p
end
end L3

set_option Elab.async false
set_option linter.all false
set_option maxRecDepth 100000
set_option maxHeartbeats 4000000
/-! L3Top: dict displays with text keys; the deck's making; the law's own def. -/
namespace L3
open PySem PySem.Spec PyProof.Rows L2

/-! ### {"a": .., "b": ..} -/
def mseq : List (M3 D) → M3 (List D)
  | [] => anil
  | m :: r => acons m (mseq r)
def trs3 (M : Ms) (ps : List (Str × M3 D)) : List (TE × TE) := ps.map fun p => (tC (.str p.1), T3 M p.2)
def mdisp (ps : List (Str × M3 D)) : M3 D := (mseq (ps.map (·.2))).bind fun ds => if ds.length = ps.length ∧ ps.length ≤ 15 ∧ (ps.map (·.1)).Nodup then M3.ret (.dic (((ps.map (·.1)).zip ds).map fun q => (.str q.1, q.2))) else fun _ _ => .bad
section
variable {X : Cx} {M : Ms} {B : Bs} {F : FS} {env : Env3} {w : Wd} {σ : Sl} {H : Hp} {pos : Pos}
theorem tp3 : ∀ (ps : List (Str × M3 D)) {F : FS} {w : Wd} {H : Hp} (Q : List (V × V) → Hp → Prop), Cor M B F env w σ H → PostA M F H (mseq (ps.map (·.2)) env w) (fun vs H' => Q ((ps.map fun p : Str × M3 D => V.str p.1).zip vs) H') → tPairs (trs3 M ps) σ H Q
  | [], F, w, H, Q, c, p => p F H [] c.self rfl
  | (k, m) :: r, F, w, H, Q, c, p => by
    show tC (.str k) σ H fun x H1 => T3 M m σ H1 fun y H2 => tPairs (trs3 M r) σ H2 fun qs H3 => Q ((x, y) :: qs) H3
    show T3 M m σ H fun y H2 => tPairs (trs3 M r) σ H2 fun qs H3 => Q ((V.str k, y) :: qs) H3
    refine T3.mono (T3.bind' (kk := fun x => (mseq (r.map fun p : Str × M3 D => p.2)).bind fun xs => M3.ret (x :: xs)) (P := fun z F H => PostA M F H z (fun vs H' => Q ((V.str k :: r.map fun p : Str × M3 D => V.str p.1).zip vs) H')) c p (fun _ _ h => h) fun _ _ _ _ _ _ g p => p.grow g) fun v H1 ⟨F1, w1, d, g1, c1, r1, p1⟩ => ?_
    refine tp3 r _ c1 ?_
    unfold M3.bind at p1
    cases ef : mseq (r.map (·.2)) env w1 with
    | bad => rw [ef] at p1; exact p1
    | ok xs w' =>
      rw [ef] at p1
      exact fun F' H' vs g rr => p1 F' H' (v :: vs) g ⟨v, vs, rfl, RelD.mono g.sub g.ext _ _ r1, rr⟩
theorem mergeK_app : ∀ (kvs acc : List (Key × V)), ((acc ++ kvs).map (·.1)).Nodup → mergeK acc kvs = acc ++ kvs
  | [], acc, _ => (List.append_nil _).symm
  | p :: r, acc, h => by
    show mergeK (putK acc p.1 p.2) r = _
    have hk : valV acc p.1 = none := by
      cases e : valV acc p.1 with
      | none => rfl
      | some v =>
        rw [List.map_append, List.nodup_append] at h
        have : (acc.any fun kv => decide (kv.1 = p.1)) = true := by rw [valV_any, e]; rfl
        rw [List.any_eq_true] at this
        obtain ⟨q, hq, e2⟩ := this
        exact absurd (of_decide_eq_true e2) (h.2.2 _ (List.mem_map_of_mem hq) _ (by simp))
    rw [putK_new _ hk, mergeK_app r _ (by rw [List.append_assoc]; exact h), List.append_assoc]
    rfl
theorem relKs_zip : ∀ {ks : List Str} {ds : List D} {vs : List V}, RelDs M F H ds vs → RelKs M F H ((ks.zip ds).map fun q => (D.str q.1, q.2)) ((ks.zip vs).map fun q => ((.inr q.1 : Key), q.2))
  | [], _, _, _ => rfl
  | k :: ks, [], vs, r => by
    have r : vs = [] := r
    subst r; exact rfl
  | k :: ks, d :: ds, vs, r => by
    obtain ⟨x, xs, rfl, r1, r2⟩ := r
    exact ⟨.inr k, x, _, rfl, rfl, r1, relKs_zip r2⟩
theorem zip_pairs : ∀ (ks : List Str) (vs : List V), (ks.map V.str).zip vs = ((ks.zip vs).map fun q => ((.inr q.1 : Key), q.2)).map fun kv => (kV kv.1, kv.2)
  | [], _ => rfl
  | _ :: _, [] => rfl
  | k :: ks, v :: vs => by
    show (V.str k, v) :: (ks.map V.str).zip vs = _ :: _
    rw [zip_pairs ks vs]
    rfl
theorem e3n_disp {ps : List (Str × M3 D)} {keys : List (Option Expr)} {values : List Expr} (h : PPs X pos keys values (trs3 M ps)) (hall : keys.all (·.isSome) = true := by rfl) (hl : keys.length = values.length := by rfl) (h0 : keys ≠ [] := by intro z; cases z) (h15 : keys.length ≤ 15 := by exact Nat.le_of_ble_eq_true rfl) :
    PE X (.Dict keys values pos) (T3n M (mdisp ps)) := by
  refine PEi (pe_disp h hall hl h0 h15) fun σ H Q hh => ?_
  obtain ⟨B, F, env, w, c, p⟩ := hh
  intro a ha
  obtain ⟨gr, nf, nd⟩ := new_obj (o := .dK []) c ha
  have c1 := c.grow gr
  refine tp3 ps _ c1 ?_
  unfold mdisp M3.bind at p
  cases ef : mseq (ps.map (·.2)) env w with
  | bad => rw [ef] at p; exact p
  | ok ds w' =>
    rw [ef] at p
    dsimp only at p
    split at p
    · rename_i hc
      obtain ⟨h1, h2, h3⟩ := hc
      intro F' H' vs g r
      have hH' : H' a = some (.dK []) := g.keep a _ upd_same nd
      have hlv : vs.length = ps.length := by rw [← r.length]; exact h1
      refine ⟨hH', ((ps.map (·.1)).zip vs).map fun q => ((.inr q.1 : Key), q.2), ?_, ?_, ?_⟩
      · rw [← zip_pairs, List.map_map]; rfl
      · rw [List.length_map, List.length_zip, List.length_map]; omega
      have hm : mergeK [] (((ps.map (·.1)).zip vs).map fun q => ((.inr q.1 : Key), q.2)) = ((ps.map (·.1)).zip vs).map fun q => ((.inr q.1 : Key), q.2) := by
        refine (mergeK_app _ _ ?_).trans (List.nil_append _)
        rw [List.nil_append, List.map_map]
        have e : (((ps.map (·.1)).zip vs).map ((fun x => x.1) ∘ fun q : Str × V => ((.inr q.1 : Key), q.2))) = (ps.map (·.1)).map (fun s => (.inr s : Key)) := by
          have e2 : ((fun x : Key × V => x.1) ∘ fun q : Str × V => ((.inr q.1 : Key), q.2)) = (fun s => (.inr s : Key)) ∘ Prod.fst := rfl
          rw [e2, ← List.map_map, List.map_fst_zip]
          rw [List.length_map]; omega
        rw [e, List.Nodup, List.pairwise_map]
        exact h3.imp fun hne z => hne (Sum.inr.inj z)
      rw [hm]
      have nf' : ¬ F' a := fun z => nf (gr.old a (g.old a z (by rw [upd_same]; simp)) (by
        exact fun e => by
          have := g.old a z (by rw [upd_same]; simp)
          exact nf this))
      have ex : Ext F' H' (upd H' a (.dK (((ps.map (·.1)).zip vs).map fun q => ((.inr q.1 : Key), q.2)))) := fun b o f e => by
        have hb : b ≠ a := fun z => nf' (z ▸ f)
        rw [upd_ne hb]; exact e
      refine p F' _ a ⟨g.sub, fun b o e n => ?_, fun b f e => g.old b f (by
          have hb : b ≠ a := fun z => nf' (z ▸ f)
          rw [upd_ne hb]; exact e), fun b f => ?_, fun q e => ?_⟩ nf' ha nd (.inl ⟨_, upd_same, RelKs.mono (fun _ h => h) ex _ _ (relKs_zip r)⟩)
      · have hb : b ≠ a := ne_of_none e ha
        rw [upd_ne hb]
        exact g.keep b o (by rw [upd_ne hb]; exact e) n
      · have hb : b ≠ a := fun z => nf' (z ▸ f)
        rw [upd_ne hb]; exact g.dom b f
      · obtain ⟨z1, z2, z3, z4, z5⟩ := g.world q e
        have n1 : q.1 ≠ a := fun z => nd ⟨q, e, .inl z.symm⟩
        have n2 : q.2 ≠ a := fun z => nd ⟨q, e, .inr z.symm⟩
        exact ⟨by rw [upd_ne n1]; exact z1, by rw [upd_ne n2]; exact z2, z3, z4, z5⟩
    · exact p.elim
theorem e3_disp {ps : List (Str × M3 D)} {keys : List (Option Expr)} {values : List Expr} (h : PPs X pos keys values (trs3 M ps)) (hall : keys.all (·.isSome) = true := by rfl) (hl : keys.length = values.length := by rfl) (h0 : keys ≠ [] := by intro z; cases z) (h15 : keys.length ≤ 15 := by exact Nat.le_of_ble_eq_true rfl) :
    PE X (.Dict keys values pos) (T3 M (mdisp ps)) := n3 (e3n_disp h hall hl h0 h15) fun env w c ds w' h => by
  unfold mdisp M3.bind at h
  split at h
  · dsimp only at h
    split at h
    · cases h
    · cases h
  · cases h
end

/-! ### the deck's making -/
section
variable {X : Cx}
/-- cells, blend = list(script[:63]), b -/
def tDeck0 (K : PySem.W.Frag) (i j : Nat) (b : Int) : TS := fun D0 σ H => ∃ (a : Addr) (ns : List Int), σ[0]? = some (some (.ref a)) ∧ SqL K H a (ns.map V.int) ∧ ns.length ≤ 63 ∧
  ∀ (l : Addr) (H' : Hp), H l = none → H' l = some (.lst (ns.map V.int)) → (∀ b o, H b = some o → H' b = some o) → D0.nx ((σ.set i (some (.ref l))).set j (some (.int b))) H'
theorem ps_deck0 (i j : Nat) {x y z : Str} {b : Int} {px py pt p1 p2 p3 p4 p5 p6 pz pos : Pos} {j1 j2 : Nat} {kt k2 pt2} (hc : X.calm = true) (hN : X.N.Nodup) (hg : Gl X "list") (hm : X.mg "list" = none) (hi : X.N[i]? = some x := by rfl) (hj : X.N[j]? = some y := by rfl) (hij : i ≠ j := by decide)
    (hz : X.N[0]? = some z := by rfl) (hv : Vis X.env.scope z := by first | exact Or.inl rfl | exact Or.inr (Or.inl rfl) | exact Or.inr (Or.inr rfl)) (hd : (z == ("__debug__" : Str)) = false := by decide) (hcd : (z == ("__classdict__" : Str)) = false := by decide)
    (hx : X.env.scope.names.lookup x = some .local := by rfl) (hy : X.env.scope.names.lookup y = some .local := by rfl)
    (hw : swappedStores [.Tuple [.Name x px, .Name y py] kt pt] (.Tuple [.Call (.Name "list" p1) [.Subscript (.Name z pz) (.Slice none (some (.Constant (.int 63) j1 p2)) none p3) p4] [] p5, .Constant (.int b) j2 p6] k2 pt2) X.env = pure (some [x, y]) := by rfl)
    (hs : swapsWithSole [.Tuple [.Name x px, .Name y py] kt pt] (.Tuple [.Call (.Name "list" p1) [.Subscript (.Name z pz) (.Slice none (some (.Constant (.int 63) j1 p2)) none p3) p4] [] p5, .Constant (.int b) j2 p6] k2 pt2) pos.line X.env = pure false := by rfl) :
    PS X (.Assign [.Tuple [.Name x px, .Name y py] kt pt] (.Tuple [.Call (.Name "list" p1) [.Subscript (.Name z pz) (.Slice none (some (.Constant (.int 63) j1 p2)) none p3) p4] [] p5, .Constant (.int b) j2 p6] k2 pt2) pos) (tDeck0 X.K i j b) := by
  refine PSi (ps_par hc hN hi hj hij hx hy (pa_cons (pe_callTy call_list_of hg hm rfl (pa_cons (pe_slice sl_list (pe_var hz hv hd hcd) po_none (po_some pe_int)) pa_nil)) (pa_cons pe_int pa_nil)) hw hs) fun D0 σ H h => ?_
  obtain ⟨a, ns, h0, hq, hl, k⟩ := h
  refine ⟨.ref a, h0, ?_⟩
  refine ⟨63, rfl, ?_⟩
  refine ⟨a, ns.map V.int, rfl, hq, fun l1 hl1 => ?_⟩
  have ec : cutV (ns.map V.int) none (some 63) = ns.map V.int := by
    unfold cutV
    have e63 : HT.sIx (ns.map V.int).length (ns.map V.int).length (some 63) = min 63 (ns.map V.int).length := HT.sIx_nat _ _ 63
    rw [HT.sIx_none, e63, List.drop_zero, List.length_map]
    exact List.take_of_length_le (by rw [List.length_map]; omega)
  rw [ec]
  refine ⟨l1, ns.map V.int, rfl, .inl (.of upd_same), fun l2 hl2 => ?_⟩
  refine ⟨.ref l2, .int b, rfl, ?_⟩
  have n12 : l1 ≠ l2 := fun z => by subst z; rw [upd_same] at hl2; cases hl2
  refine k l2 _ ?_ upd_same fun b o e => ?_
  · rw [upd_ne n12.symm] at hl2; exact hl2
  · rw [upd_ne (ne_of_none (by rw [upd_ne (ne_of_none e hl1)]; exact e) hl2), upd_ne (ne_of_none e hl1)]; exact e
end
/-- a deck as it is dealt out -/
def Wd.new (w : Wd) : Prop := w.draws = 0 ∧ 0 ≤ w.blend ∧ w.blend < 2147483587 ∧ w.cells.length ≤ 63
def spDeck (K : PySem.W.Frag) : Sp := fun vs H Q _ => ∃ (a : Addr) (ns : List Int), vs = [.ref a] ∧ SqL K H a (ns.map V.int) ∧ ns.length ≤ 63 ∧
  ∀ (w : Wd) (p c : Addr) (H' : Hp), w.new → H p = none → H c = none → p ≠ c → H' p = some (deckO c w) → H' c = some (.lst (w.cells.map V.int)) → (∀ b o, H b = some o → H' b = some o) → Q (.ref p) H'
/-- what the rest of the deck's def computes -/
def deckD (w : Wd) : D := .dic [(.str "cells", .lst (w.cells.map D.int)), (.str "blend", .int w.blend), (.str "draws", .int w.draws)]
section
variable {P : Program} {w : World} {K : PySem.W.Frag} {mg : Str → Option Value} {base : Heap}
theorem deckFn {k : Nat} {x qual pz y1 y2 y3 : Str} {st s1 : Stmt} {f : Addr} {fd : FuncData} {rest : List Stmt} {g : St3} {b0 : Int} (Fn : Fun K x qual st f fd) (S : FnScope [pz, y1, y2, y3] [pz] (defScope st)) (hst : defBody st = s1 :: rest)
    (h1 : ∀ (cdv : Value) (A : Around) (outer : List Env) (s : Shared) (H : Hp), PS (cxOf CX0 P w K mg base [pz, y1, y2, y3] qual (defScope st) f cdv A outer s H E0).nox s1 (tDeck0 K 1 2 b0))
    (h2 : ∀ (cdv : Value) (A : Around) (outer : List Env) (s : Shared) (H : Hp), Room k (A.deeper (envOfC qual (defScope st) s.heap.objs.size f cdv)) → A.guards = some [] → PSs (cxOf CX0 P w K mg base [pz, y1, y2, y3] qual (defScope st) f cdv A outer s H E0).nox rest (TS3 ⟨K, none, fun _ => 0, fun _ => []⟩ g))
    (hg : ∀ (ns : List Int) (w0 : Wd), ns.length ≤ 63 → ∃ w : Wd, w.new ∧ g [none, some (false, .lst (ns.map D.int)), some (false, .int b0), none] w0 = .ret (deckD w) w0) :
    FnG P w K mg base (k + 1) f fd [pz] (spDeck K) := by
  refine fnG_of Fn S fun cdv A outer s H vs Q hr hgd h => ?_
  rw [hst]
  refine ⟨_, pss_cons (h1 cdv A outer s H) (h2 cdv A outer s H hr hgd), ?_⟩
  obtain ⟨a, ns, rfl, hq, hl, k⟩ := h
  refine ⟨a, ns, rfl, hq, hl, fun l H' hl0 hl1 hkeep => ?_⟩
  let M0 : Ms := ⟨K, none, fun _ => 0, fun _ => []⟩
  obtain ⟨wd, hw, e⟩ := hg ns ⟨[], 0, 0⟩ hl
  refine ⟨⟨H', fun b => b = l⟩, fun b => b = l, [none, some (false, .lst (ns.map D.int)), some (false, .int b0), none], ⟨[], 0, 0⟩, ?_, ?_⟩
  · refine ⟨⟨fun b e => by have e : b = l := e; subst e; rw [hl1]; simp, (fun p e => by cases e), fun _ _ e _ => e, fun _ f _ => f, fun _ f => f⟩, rfl, ?_, ?_, ?_⟩
    · intro i d hi
      match i, hi with
      | 0, hi => cases hi
      | 1, hi =>
        cases hi
        exact ⟨_, rfl, l, ns.map V.int, rfl, ⟨rfl, hl1⟩, RelDs.ints⟩
      | 2, hi => cases hi; exact ⟨_, rfl, rfl⟩
      | 3, hi => cases hi
      | n + 4, hi => cases hi
    · intro i d hi
      match i, hi with
      | 0, hi => cases hi
      | 1, hi => cases hi
      | 2, hi => cases hi
      | 3, hi => cases hi
      | n + 4, hi => cases hi
    · intro i j d d2 v hi
      match i, hi with
      | 0, hi => cases hi
      | 1, hi => cases hi
      | 2, hi => cases hi
      | 3, hi => cases hi
      | n + 4, hi => cases hi
  · rw [e]
    intro F2 H2 v gd mo r
    obtain ⟨p, rfl, fp, ho⟩ := r
    have keep2 : ∀ b o, H' b = some o → H2 b = some o := fun b o e => gd.keep b o e (fun ⟨q, z, _⟩ => by cases z)
    have fresh : ∀ b, F2 b → H b = none := fun b fb => by
      cases eb : H' b with
      | none =>
        cases e0 : H b with
        | none => rfl
        | some o => rw [hkeep b o e0] at eb; cases eb
      | some o =>
        have z : b = l := gd.old b fb (by show H' b ≠ none; rw [eb]; simp)
        rw [z]; exact hl0
    rcases ho with ⟨ps, hp, rk⟩ | ⟨ps, hp, rk⟩
    · obtain ⟨q1, x1, t1, rfl, e1, r1, q2, x2, t2, rfl, e2, r2, q3, x3, t3, rfl, e3, r3, e4⟩ := rk
      have e4 : t3 = [] := e4
      subst e4
      obtain ⟨c, xs, rfl, ⟨fc, hc⟩, rl⟩ := r1
      have r2 : x2 = .int wd.blend := r2
      have r3 : x3 = .int wd.draws := r3
      subst r2 r3
      have kd : ∀ {s : Str} {q : Key}, D.str s = keyD q → q = .inr s := fun {s q} e => by
        cases q with
        | inl i => cases e
        | inr z => cases e; rfl
      cases kd e1; cases kd e2; cases kd e3
      have hxs := RelDs.ints_eq rl
      subst hxs
      refine k wd p c H2 hw (fresh p fp) (fresh c fc) (fun z => ?_) hp hc fun b o e => keep2 b o (hkeep b o e)
      subst z
      rw [hp] at hc
      cases hc
    · obtain ⟨q1, x1, t1, rfl, e1, _⟩ := rk
      cases e1
/-- the law's own: a list of at most 63 ints is handed in, True comes out -/
def spLaw (K : PySem.W.Frag) : Sp := fun vs H Q _ => ∃ (a : Addr) (ns : List Int), vs = [.ref a] ∧ SqL K H a (ns.map V.int) ∧ ns.length ≤ 63 ∧ ∀ H', Q (.bl true) H'
theorem lawFn {kd k N0 : Nat} {x qual pz y1 : Str} {Nr : List Str} {st : Stmt} {fD : Addr} {f : Addr} {fd : FuncData} {rest : List Stmt} {g : St3} {xd : Str} {px pc p1 pos sp : Pos} (Fn : Fun K x qual st f fd) (S : FnScope (pz :: y1 :: Nr) [pz] (defScope st))
    (hst : defBody st = .Assign [.Name y1 px] (.Call (.Name xd p1) [.Name pz pc] [] pos) sp :: rest) (hN0 : Nr.length = N0)
    (hD : PosG P w K mg base kd fD (spDeck K)) (hkd : kd ≤ k) (hm : mg xd = some (.ref fD)) (hkp : PySem.W.keepIn K (.ref fD) = true) (hdb : (xd == ("__debug__" : Str)) = false) (hpz : (pz == ("__debug__" : Str)) = false) (hpc : (pz == ("__classdict__" : Str)) = false)
    (hgl : ∀ (cdv : Value) (A : Around) (outer : List Env) (s : Shared) (H : Hp), Gl (cxOf CX0 P w K mg base (pz :: y1 :: Nr) qual (defScope st) f cdv A outer s H E0).nox xd) (hvz : Vis (defScope st) pz) (hly : Loc (defScope st) y1)
    (hsw : ∀ (cdv : Value) (A : Around) (outer : List Env) (s : Shared) (H : Hp), swapsWith (.Call (.Name xd p1) [.Name pz pc] [] pos) (some (.Name y1 px)) sp.line (cxOf CX0 P w K mg base (pz :: y1 :: Nr) qual (defScope st) f cdv A outer s H E0).nox.env = pure false)
    (h2 : ∀ (dk : Option (Addr × Addr)) (cdv : Value) (A : Around) (outer : List Env) (s : Shared) (H : Hp), Room k (A.deeper (envOfC qual (defScope st) s.heap.objs.size f cdv)) → A.guards = some [] → PSs (cxOf CX0 P w K mg base (pz :: y1 :: Nr) qual (defScope st) f cdv A outer s H E0).nox rest (TS3 ⟨K, dk, fun _ => 0, fun _ => []⟩ g))
    (hg : ∀ w0 : Wd, w0.new → ∃ w1, g (none :: some (false, .deck) :: List.replicate N0 none) w0 = .ret (.bl true) w1) :
    FnG P w K mg base (k + 1) f fd [pz] (spLaw K) := by
  refine fnG_of Fn S fun cdv A outer s H vs Q hr hgd h => ?_
  rw [hst]
  have a1 : ∀ dk, PSs (cxOf CX0 P w K mg base (pz :: y1 :: Nr) qual (defScope st) f cdv A outer s H E0).nox rest (TS3 ⟨K, dk, fun _ => 0, fun _ => []⟩ g) := fun dk => h2 dk cdv A outer s H hr hgd
  have a2 : PSs (cxOf CX0 P w K mg base (pz :: y1 :: Nr) qual (defScope st) f cdv A outer s H E0).nox rest (fun D0 σ H => ∃ dk, TS3 ⟨K, dk, fun _ => 0, fun _ => []⟩ g D0 σ H) := ⟨fun pins s σ H D0 I ⟨dk, q⟩ => (a1 dk).run pins s σ H D0 I q⟩
  refine ⟨_, pss_cons (ps_set S.nd (i := 1) rfl hly (g_call hD (hr.mono hkd) hgd (hgl cdv A outer s H) hm hkp (pa_cons (pe_var (i := 0) rfl hvz hpz hpc) pa_nil) hdb) (hsw cdv A outer s H)) a2, ?_⟩
  obtain ⟨a, ns, rfl, hq, hl, k⟩ := h
  refine ⟨.ref a, rfl, a, ns, rfl, hq, hl, fun wd p c H' hw hp hc hpc h1 h2' hkeep => ?_⟩
  obtain ⟨w1, e⟩ := hg wd hw
  refine ⟨some (p, c), ⟨H', fun _ => False⟩, fun _ => False, none :: some (false, .deck) :: List.replicate N0 none, wd, ?_, ?_⟩
  · refine ⟨⟨fun b e => e.elim, fun q e => by cases e; exact ⟨h1, h2', fun z => z, fun z => z, hpc⟩, fun _ _ e _ => e, fun _ f _ => f, fun _ f => f⟩, ?_, ?_, ?_, ?_⟩
    · unfold L2.start
      simp [hN0]
    · intro i d hi
      match i, hi with
      | 0, hi => cases hi
      | 1, hi => cases hi; exact ⟨_, rfl, (p, c), rfl, rfl⟩
      | n + 2, hi =>
        have hi : (List.replicate N0 none)[n]? = some (some (false, d)) := hi
        rw [List.getElem?_replicate] at hi
        split at hi <;> cases hi
    · intro i d hi
      match i, hi with
      | 0, hi => cases hi
      | 1, hi => cases hi
      | n + 2, hi =>
        have hi : (List.replicate N0 none)[n]? = some (some (true, d)) := hi
        rw [List.getElem?_replicate] at hi
        split at hi <;> cases hi
    · intro i j d d2 v hi
      match i, hi with
      | 0, hi => cases hi
      | 1, hi => cases hi
      | n + 2, hi =>
        have hi : (List.replicate N0 none)[n]? = some (some (true, d)) := hi
        rw [List.getElem?_replicate] at hi
        split at hi <;> cases hi
  · rw [e]
    intro F2 H2 v gd mo r
    have r : v = .bl true := r
    subst r
    exact k H2
end
end L3

set_option Elab.async false
set_option linter.all false
set_option maxRecDepth 100000
set_option maxHeartbeats 4000000
/-! L3Wp: what must hold ahead, for the plain functions (no program here). -/
namespace L3
open PySem PySem.Spec PyProof.Rows L2

def Ok {α : Type} (r : R3 α) (P : α → Wd → Prop) : Prop := match r with
  | .ok a w => P a w
  | .bad => False
def Sx (r : S3) (N C B : Env3 → Wd → Prop) (R : D → Wd → Prop) : Prop := match r with
  | .nx e w => N e w
  | .ct e w => C e w
  | .bk e w => B e w
  | .ret d w => R d w
  | .bad => False
abbrev no2 : Env3 → Wd → Prop := fun _ _ => False
section
variable {α : Type} {env : Env3} {w : Wd}
theorem Ok.mono {r : R3 α} {P P' : α → Wd → Prop} (h : Ok r P) (i : ∀ a w, P a w → P' a w) : Ok r P' := by
  cases r with
  | ok a w => exact i a w h
  | bad => exact h
theorem Ok.ex {r : R3 α} {P : α → Wd → Prop} (h : Ok r P) : ∃ a w, r = .ok a w ∧ P a w := by
  cases r with
  | ok a w => exact ⟨a, w, rfl, h⟩
  | bad => exact h.elim
theorem Sx.mono {r : S3} {N C B N' C' B' : Env3 → Wd → Prop} {R R' : D → Wd → Prop} (h : Sx r N C B R) (iN : ∀ e w, N e w → N' e w) (iC : ∀ e w, C e w → C' e w) (iB : ∀ e w, B e w → B' e w) (iR : ∀ e w, R e w → R' e w) : Sx r N' C' B' R' := by
  cases r with
  | nx e w => exact iN e w h
  | ct e w => exact iC e w h
  | bk e w => exact iB e w h
  | ret e w => exact iR e w h
  | bad => exact h
theorem wp_ok {a : α} {P : α → Wd → Prop} : Ok (.ok a w) P ↔ P a w := Iff.rfl
theorem wp_bind {β : Type} {f : M3 α} {k : α → M3 β} {P : β → Wd → Prop} : Ok ((f.bind k) env w) P ↔ Ok (f env w) fun a w' => Ok (k a env w') P := by
  unfold M3.bind
  cases f env w <;> exact Iff.rfl
theorem wp_ret {a : α} {P : α → Wd → Prop} : Ok (M3.ret a env w) P ↔ P a w := Iff.rfl
theorem wp_opt {a : Option α} {P : α → Wd → Prop} : Ok (M3.opt a env w) P ↔ ∃ x, a = some x ∧ P x w := by
  unfold M3.opt
  cases a with
  | none => exact ⟨fun h => h.elim, fun ⟨x, e, _⟩ => by cases e⟩
  | some a => exact ⟨fun h => ⟨a, rfl, h⟩, fun ⟨x, e, h⟩ => by cases e; exact h⟩
variable {P : D → Wd → Prop} {PB : Bool → Wd → Prop} {PL : List D → Wd → Prop} {PO : Option Int → Wd → Prop} {f fa fb : M3 D} {ga gb : M3 Bool} {fs : M3 (List D)} {g : D → D → Option D} {d : D} {i j n : Nat}
theorem wp_cst : Ok (cst d env w) P ↔ P d w := Iff.rfl
theorem wp_evar : Ok (evar i env w) P ↔ ∃ d, env[i]? = some (some (false, d)) ∧ P d w := by
  unfold evar
  split
  · rename_i d e
    exact ⟨fun h => ⟨d, e, h⟩, fun ⟨d', e', h⟩ => by rw [e] at e'; cases e'; exact h⟩
  · rename_i ne
    exact ⟨fun h => h.elim, fun ⟨d, e, h⟩ => ne d e⟩
theorem wp_evarB : Ok (evarB i env w) P ↔ ∃ o d, env[i]? = some (some (o, d)) ∧ P d w := by
  unfold evarB
  split
  · rename_i o d e
    exact ⟨fun h => ⟨o, d, e, h⟩, fun ⟨o', d', e', h⟩ => by rw [e] at e'; cases e'; exact h⟩
  · rename_i ne
    exact ⟨fun h => h.elim, fun ⟨o, d, e, h⟩ => ne o d e⟩
theorem wp_m2 : Ok (m2 g fa fb env w) P ↔ Ok (fa env w) fun a w1 => Ok (fb env w1) fun b w2 => ∃ d, g a b = some d ∧ P d w2 := by
  unfold m2; simp only [wp_bind, wp_opt]
theorem wp_mC {g : List D → Option D} : Ok (mC g fs env w) P ↔ Ok (fs env w) fun a w1 => ∃ d, g a = some d ∧ P d w1 := by
  unfold mC; simp only [wp_bind, wp_opt]
theorem wp_mM {g : D → List D → Option D} : Ok (mM g f fs env w) P ↔ Ok (f env w) fun a w1 => Ok (fs env w1) fun b w2 => ∃ d, g a b = some d ∧ P d w2 := by
  unfold mM; simp only [wp_bind, wp_opt]
theorem wp_anil : Ok (anil env w) PL ↔ PL [] w := Iff.rfl
theorem wp_acons : Ok (acons f fs env w) PL ↔ Ok (f env w) fun a w1 => Ok (fs env w1) fun b w2 => PL (a :: b) w2 := by
  unfold acons; simp only [wp_bind, wp_ret]
theorem wp_mtup : Ok (mtup fs env w) P ↔ Ok (fs env w) fun ds w => ds.length ≤ SL ∧ P (.tup ds) w := by
  unfold mtup; simp only [wp_bind]
  cases fs env w with
  | bad => exact Iff.rfl
  | ok ds w => show Ok ((if _ then _ else _ : M3 D) env w) P ↔ _; split
               · rename_i h; exact ⟨fun q => ⟨h, q⟩, fun q => q.2⟩
               · rename_i h; exact ⟨fun q => q.elim, fun q => h q.1⟩
theorem wp_mlst : Ok (mlst fs env w) P ↔ Ok (fs env w) fun ds w => ds.length ≤ SL ∧ P (.lst ds) w := by
  unfold mlst; simp only [wp_bind]
  cases fs env w with
  | bad => exact Iff.rfl
  | ok ds w => show Ok ((if _ then _ else _ : M3 D) env w) P ↔ _; split
               · rename_i h; exact ⟨fun q => ⟨h, q⟩, fun q => q.2⟩
               · rename_i h; exact ⟨fun q => q.elim, fun q => h q.1⟩
theorem wp_onone : Ok (onone env w) PO ↔ PO none w := Iff.rfl
theorem wp_osome : Ok (osome f env w) PO ↔ Ok (f env w) fun d w => ∃ i, d = .int i ∧ PO (some i) w := by
  unfold osome; simp only [wp_bind]
  cases f env w with
  | bad => exact Iff.rfl
  | ok d w => cases d with
    | int i => exact ⟨fun q => ⟨i, rfl, q⟩, fun ⟨j, e, q⟩ => by cases e; exact q⟩
    | _ => exact ⟨fun q => q.elim, fun ⟨j, e, q⟩ => by cases e⟩
theorem wp_msl {lo hi : M3 (Option Int)} : Ok (msl f lo hi env w) P ↔ Ok (f env w) fun x w => Ok (lo env w) fun l w => Ok (hi env w) fun u w => ∃ d, dSl x l u = some d ∧ P d w := by
  unfold msl; simp only [wp_bind, wp_opt]
theorem wp_mneg : Ok (mneg f env w) P ↔ Ok (f env w) fun x w => ∃ d, dNeg x = some d ∧ P d w := by
  unfold mneg; simp only [wp_bind, wp_opt]
theorem wp_mrevL : Ok (mrevL f env w) P ↔ Ok (f env w) fun x w => ∃ d, dRevL x = some d ∧ P d w := by
  unfold mrevL; simp only [wp_bind, wp_opt]
theorem wp_mlenSet : Ok (mlenSet f env w) P ↔ Ok (f env w) fun x w => ∃ d, dLenSet x = some d ∧ P d w := by
  unfold mlenSet; simp only [wp_bind, wp_opt]
theorem wp_misi {T : String} : Ok (misi T f env w) P ↔ Ok (f env w) fun x w => ∃ d, dIsi T x = some d ∧ P d w := by
  unfold misi; simp only [wp_bind, wp_opt]
theorem wp_tst : Ok (tst f env w) PB ↔ Ok (f env w) fun d w => ∃ b, d = .bl b ∧ PB b w := by
  unfold tst; simp only [wp_bind]
  cases f env w with
  | bad => exact Iff.rfl
  | ok d w => cases d with
    | bl i => exact ⟨fun q => ⟨i, rfl, q⟩, fun ⟨j, e, q⟩ => by cases e; exact q⟩
    | _ => exact ⟨fun q => q.elim, fun ⟨j, e, q⟩ => by cases e⟩
theorem wp_tru : Ok (tru f env w) PB ↔ Ok (f env w) fun d w => ∃ b, dTru d = some b ∧ PB b w := by
  unfold tru; simp only [wp_bind, wp_opt]
theorem wp_tyes : Ok (tyes env w) PB ↔ PB true w := Iff.rfl
theorem wp_tand : Ok (tand ga gb env w) PB ↔ Ok (ga env w) fun c w => (c = true → Ok (gb env w) PB) ∧ (c = false → PB false w) := by
  unfold tand; simp only [wp_bind]
  cases ga env w with
  | bad => exact Iff.rfl
  | ok c w => cases c <;> simp [Ok, M3.ret]
theorem wp_tor : Ok (tor ga gb env w) PB ↔ Ok (ga env w) fun c w => (c = true → PB true w) ∧ (c = false → Ok (gb env w) PB) := by
  unfold tor; simp only [wp_bind]
  cases ga env w with
  | bad => exact Iff.rfl
  | ok c w => cases c <;> simp [Ok, M3.ret]
theorem wp_tnot : Ok (tnot ga env w) PB ↔ Ok (ga env w) fun c w => PB (!c) w := by
  unfold tnot; simp only [wp_bind, wp_ret]
theorem wp_vand : Ok (vand fa fb env w) P ↔ Ok (fa env w) fun d w => ∃ c, d = .bl c ∧ (c = true → Ok (fb env w) P) ∧ (c = false → P (.bl false) w) := by
  unfold vand; simp only [wp_bind]
  cases fa env w with
  | bad => exact Iff.rfl
  | ok d w => cases d with
    | bl c => cases c <;> simp [Ok, M3.ret]
    | _ => exact ⟨fun q => q.elim, fun ⟨j, e, q⟩ => by cases e⟩
theorem wp_vor : Ok (vor fa fb env w) P ↔ Ok (fa env w) fun d w => ∃ c, d = .bl c ∧ (c = true → P (.bl true) w) ∧ (c = false → Ok (fb env w) P) := by
  unfold vor; simp only [wp_bind]
  cases fa env w with
  | bad => exact Iff.rfl
  | ok d w => cases d with
    | bl c => cases c <;> simp [Ok, M3.ret]
    | _ => exact ⟨fun q => q.elim, fun ⟨j, e, q⟩ => by cases e⟩
theorem wp_vnot : Ok (vnot f env w) P ↔ Ok (f env w) fun d w => ∃ c, d = .bl c ∧ P (.bl !c) w := by
  unfold vnot; simp only [wp_bind]
  cases f env w with
  | bad => exact Iff.rfl
  | ok d w => cases d with
    | bl c => cases c <;> simp [Ok, M3.ret]
    | _ => exact ⟨fun q => q.elim, fun ⟨j, e, q⟩ => by cases e⟩
theorem wp_vif : Ok (vif ga fa fb env w) P ↔ Ok (ga env w) fun c w => (c = true → Ok (fa env w) P) ∧ (c = false → Ok (fb env w) P) := by
  unfold vif; simp only [wp_bind]
  cases ga env w with
  | bad => exact Iff.rfl
  | ok c w => cases c <;> simp [Ok]
theorem wp_callM {m : Fun3} : Ok (callM m n fs env w) P ↔ Ok (fs env w) fun ds w => ds.length = n ∧ Ok (m ds w) P := by
  unfold callM; simp only [wp_bind]
  cases fs env w with
  | bad => exact Iff.rfl
  | ok ds w => show Ok (if _ then _ else _) P ↔ _; split
               · rename_i h; exact ⟨fun q => ⟨h, q⟩, fun q => q.2⟩
               · rename_i h; exact ⟨fun q => q.elim, fun q => h q.1⟩
theorem wp_kwM {m : Fun3} {g : {α : Type} → List α → List α} : Ok (kwM m n g fs env w) P ↔ Ok (fs env w) fun ds w => (g ds).length = n ∧ Ok (m (g ds) w) P := by
  unfold kwM; simp only [wp_bind]
  cases fs env w with
  | bad => exact Iff.rfl
  | ok ds w => show Ok (if _ then _ else _) P ↔ _; split
               · rename_i h; exact ⟨fun q => ⟨h, q⟩, fun q => q.2⟩
               · rename_i h; exact ⟨fun q => q.elim, fun q => h q.1⟩
theorem wp_dkInt {h : Wd → Int} : Ok (dkInt i h env w) P ↔ isDeckAt env i = true ∧ P (.int (h w)) w := by
  unfold dkInt
  split
  · rename_i h; exact ⟨fun q => ⟨h, q⟩, fun q => q.2⟩
  · rename_i h; exact ⟨fun q => q.elim, fun q => h q.1⟩
theorem wp_tCells : Ok (tCells i env w) PB ↔ isDeckAt env i = true ∧ w.cells.length ≤ 1000 ∧ PB (!w.cells.isEmpty) w := by
  unfold tCells
  split
  · rename_i h
    rw [Bool.and_eq_true, decide_eq_true_eq] at h
    exact ⟨fun q => ⟨h.1, h.2, q⟩, fun q => q.2.2⟩
  · rename_i h
    rw [Bool.and_eq_true, decide_eq_true_eq] at h
    exact ⟨fun q => q.elim, fun q => h ⟨q.1, q.2.1⟩⟩
theorem wp_iseq : Ok (iseq f env w) PL ↔ Ok (f env w) fun d w => ∃ ds, d = .lst ds ∧ PL ds w := by
  unfold iseq; simp only [wp_bind]
  cases f env w with
  | bad => exact Iff.rfl
  | ok d w => cases d with
    | lst i => exact ⟨fun q => ⟨i, rfl, q⟩, fun ⟨j, e, q⟩ => by cases e; exact q⟩
    | _ => exact ⟨fun q => q.elim, fun ⟨j, e, q⟩ => by cases e⟩
theorem wp_itup : Ok (itup f env w) PL ↔ Ok (f env w) fun d w => ∃ ds, d = .tup ds ∧ PL ds w := by
  unfold itup; simp only [wp_bind]
  cases f env w with
  | bad => exact Iff.rfl
  | ok d w => cases d with
    | tup i => exact ⟨fun q => ⟨i, rfl, q⟩, fun ⟨j, e, q⟩ => by cases e; exact q⟩
    | _ => exact ⟨fun q => q.elim, fun ⟨j, e, q⟩ => by cases e⟩
theorem wp_istr : Ok (istr f env w) PL ↔ Ok (f env w) fun d w => ∃ z : Str, d = .str z ∧ PL (z.cps.toList.map fun c => .str (sgn c)) w := by
  unfold istr; simp only [wp_bind]
  cases f env w with
  | bad => exact Iff.rfl
  | ok d w => cases d with
    | str i => exact ⟨fun q => ⟨i, rfl, q⟩, fun ⟨j, e, q⟩ => by cases e; exact q⟩
    | _ => exact ⟨fun q => q.elim, fun ⟨j, e, q⟩ => by cases e⟩
theorem wp_irng1 : Ok (irng1 fs env w) PL ↔ Ok (fs env w) fun ds w => ∃ j : Int, ds = [.int j] ∧ -(2 ^ 62) ≤ j ∧ j < 2 ^ 62 ∧ PL ((List.range j.toNat).map fun i : Nat => .int i) w := by
  unfold irng1; simp only [wp_bind]
  cases fs env w with
  | bad => exact Iff.rfl
  | ok ds w =>
    show Ok ((match ds with | [.int j] => _ | _ => _ : M3 (List D)) env w) PL ↔ _
    split
    · rename_i j
      split
      · rename_i h; exact ⟨fun q => ⟨j, rfl, h.1, h.2, q⟩, fun ⟨k, e, _, _, q⟩ => by cases e; exact q⟩
      · rename_i h; exact ⟨fun q => q.elim, fun ⟨k, e, h1, h2, q⟩ => by cases e; exact h ⟨h1, h2⟩⟩
    · rename_i ne
      exact ⟨fun q => q.elim, fun ⟨k, e, _⟩ => ne k e⟩
theorem wp_defM {g : St3} {ds : List D} : Ok (defM n g ds w) P ↔ Sx (g (env0 n ds) w) (fun _ w => P .non w) no2 no2 P := by
  unfold defM
  cases g (env0 n ds) w <;> exact Iff.rfl
theorem wp_starM {m : Fun3} {ds : List D} : Ok (starM m ds w) P ↔ Ok (m [.tup ds] w) P := Iff.rfl
variable {N C B : Env3 → Wd → Prop} {R : D → Wd → Prop} {s t : St3} {G : G3}
theorem wp_snil : Sx (snil env w) N C B R ↔ N env w := Iff.rfl
theorem wp_sseq : Sx (sseq s t env w) N C B R ↔ Sx (s env w) (fun e w => Sx (t e w) N C B R) C B R := by
  unfold sseq
  cases s env w <;> exact Iff.rfl
theorem wp_sret : Sx (sret f env w) N C B R ↔ Ok (f env w) R := by
  unfold sret
  cases f env w <;> exact Iff.rfl
theorem wp_sdrop : Sx (sdrop f env w) N C B R ↔ Ok (f env w) fun _ w => N env w := by
  unfold sdrop
  cases f env w <;> exact Iff.rfl
theorem wp_sif : Sx (sif ga s t env w) N C B R ↔ Ok (ga env w) fun c w => (c = true → Sx (s env w) N C B R) ∧ (c = false → Sx (t env w) N C B R) := by
  unfold sif
  cases ga env w with
  | bad => exact Iff.rfl
  | ok c w => cases c <;> simp [Ok]
theorem wp_sasg : Sx (sasg f G env w) N C B R ↔ Ok (f env w) fun d w => ∃ e, G d env = some e ∧ N e w := by
  unfold sasg
  cases f env w with
  | bad => exact Iff.rfl
  | ok d w =>
    show Sx (match G d env with | some e => .nx e w | none => .bad) N C B R ↔ ∃ e, G d env = some e ∧ N e w
    cases G d env with
    | none => exact ⟨fun q => q.elim, fun ⟨e, h, _⟩ => by cases h⟩
    | some e => exact ⟨fun q => ⟨e, rfl, q⟩, fun ⟨e', h, q⟩ => by cases h; exact q⟩
theorem gn_iff {e : Env3} : gn i d env = some e ↔ i < env.length ∧ e = env.set i (some (false, d)) := by
  unfold gn
  split
  · rename_i h; exact ⟨fun q => by cases q; exact ⟨h, rfl⟩, fun ⟨_, q⟩ => by rw [q]⟩
  · rename_i h; exact ⟨fun q => (by cases q), fun ⟨q, _⟩ => absurd q h⟩
theorem wp_set : Sx (sasg f (gn i) env w) N C B R ↔ Ok (f env w) fun d w => i < env.length ∧ N (env.set i (some (false, d))) w := by
  rw [wp_sasg]
  simp only [gn_iff]
  constructor
  · exact fun h => h.mono fun a w ⟨e, ⟨h1, h2⟩, h3⟩ => ⟨h1, h2 ▸ h3⟩
  · exact fun h => h.mono fun a w ⟨h1, h3⟩ => ⟨_, ⟨h1, rfl⟩, h3⟩
theorem wp_saug : Sx (saug i g f env w) N C B R ↔ Ok (evar i env w) fun a w => Ok (f env w) fun b w => ∃ d, g a b = some d ∧ i < env.length ∧ N (env.set i (some (false, d))) w := by
  unfold saug
  rw [wp_set, wp_m2]
theorem wp_spar : Sx (spar i j fs env w) N C B R ↔ Ok (fs env w) fun ds w => ∃ a b, ds = [a, b] ∧ i < env.length ∧ j < env.length ∧ N ((env.set i (some (false, a))).set j (some (false, b))) w := by
  unfold spar
  cases fs env w with
  | bad => exact Iff.rfl
  | ok ds w =>
    match ds with
    | [a, b] =>
      dsimp only
      split
      · rename_i h; exact ⟨fun q => ⟨a, b, rfl, h.1, h.2, q⟩, fun ⟨_, _, e, _, _, q⟩ => by cases e; exact q⟩
      · rename_i h; exact ⟨fun q => q.elim, fun ⟨_, _, e, h1, h2, q⟩ => h ⟨h1, h2⟩⟩
    | [] => exact ⟨fun q => q.elim, fun ⟨_, _, e, _⟩ => by cases e⟩
    | [_] => exact ⟨fun q => q.elim, fun ⟨_, _, e, _⟩ => by cases e⟩
    | _ :: _ :: _ :: _ => exact ⟨fun q => q.elim, fun ⟨_, _, e, _⟩ => by cases e⟩
theorem wp_son : Sx (son i f env w) N C B R ↔ Ok (f env w) fun d w => i < env.length ∧ N (env.set i (some (true, d))) w := by
  unfold son
  cases f env w with
  | bad => exact Iff.rfl
  | ok d w =>
    dsimp only
    split
    · rename_i h; exact ⟨fun q => ⟨h, q⟩, fun q => q.2⟩
    · rename_i h; exact ⟨fun q => q.elim, fun q => h q.1⟩
theorem wp_sapp : Sx (sapp i f env w) N C B R ↔ ∃ ds, env[i]? = some (some (true, .lst ds)) ∧ Ok (f env w) fun d w => ds.length < SL ∧ N (env.set i (some (true, .lst (ds ++ [d])))) w := by
  unfold sapp
  split
  · rename_i ds e
    cases f env w with
    | bad => exact ⟨fun q => q.elim, fun ⟨_, _, q⟩ => q⟩
    | ok d w =>
      dsimp only
      split
      · rename_i h; exact ⟨fun q => ⟨ds, e, h, q⟩, fun ⟨ds', e', h, q⟩ => by rw [e] at e'; cases e'; exact q⟩
      · rename_i h; exact ⟨fun q => q.elim, fun ⟨ds', e', h1, q⟩ => by rw [e] at e'; cases e'; exact h h1⟩
  · rename_i ne; exact ⟨fun q => q.elim, fun ⟨ds, e, _⟩ => ne ds e⟩
theorem wp_sDraws : Sx (sDraws i f env w) N C B R ↔ Ok (f env w) fun d w => ∃ n : Int, d = .int n ∧ isDeckAt env i = true ∧ N env { w with draws := n } := by
  unfold sDraws
  cases f env w with
  | bad => exact Iff.rfl
  | ok d w => cases d with
    | int n =>
      dsimp only
      split
      · rename_i h; exact ⟨fun q => ⟨n, rfl, h, q⟩, fun ⟨_, e, _, q⟩ => by cases e; exact q⟩
      · rename_i h; exact ⟨fun q => q.elim, fun ⟨_, _, q, _⟩ => h q⟩
    | _ => exact ⟨fun q => q.elim, fun ⟨j, e, q⟩ => by cases e⟩
theorem wp_sPop : Sx (sPop i j env w) N C B R ↔ isDeckAt env i = true ∧ j < env.length ∧ ∃ n, w.cells.getLast? = some n ∧ N (env.set j (some (false, .int n))) { w with cells := w.cells.dropLast } := by
  unfold sPop
  split
  · rename_i h
    rw [Bool.and_eq_true, decide_eq_true_eq] at h
    cases e : w.cells.getLast? with
    | none => exact ⟨fun q => q.elim, fun ⟨_, _, n, e, _⟩ => by cases e⟩
    | some n => exact ⟨fun q => ⟨h.1, h.2, n, rfl, q⟩, fun ⟨_, _, n, e, q⟩ => by cases e; exact q⟩
  · rename_i h
    rw [Bool.and_eq_true, decide_eq_true_eq] at h
    exact ⟨fun q => q.elim, fun ⟨h1, h2, _⟩ => h ⟨h1, h2⟩⟩
theorem wp_sPush : Sx (sPush i f env w) N C B R ↔ isDeckAt env i = true ∧ Ok (f env w) fun d w => ∃ n : Int, d = .int n ∧ w.cells.length < 1000 ∧ N env { w with cells := w.cells ++ [n] } := by
  unfold sPush
  split
  · rename_i h
    cases f env w with
    | bad => exact ⟨fun q => q.elim, fun ⟨_, q⟩ => q⟩
    | ok d w => cases d with
      | int n =>
        dsimp only
        split
        · rename_i h2; exact ⟨fun q => ⟨h, n, rfl, h2, q⟩, fun ⟨_, _, e, _, q⟩ => by cases e; exact q⟩
        · rename_i h2; exact ⟨fun q => q.elim, fun ⟨_, _, _, q, _⟩ => h2 q⟩
      | _ => exact ⟨fun q => q.elim, fun ⟨_, j, e, q⟩ => by cases e⟩
  · rename_i h; exact ⟨fun q => q.elim, fun q => h q.1⟩
theorem wp_sfor : Sx (sfor fs G s env w) N C B R ↔ Ok (fs env w) fun ds w => Sx (forL G s ds env w) N C B R := by
  unfold sfor
  cases fs env w <;> exact Iff.rfl
/-- a for loop, by what holds after each item -/
theorem for_inv (J : List D → Env3 → Wd → Prop) {ds : List D} (h0 : J [] env w) (hs : ∀ (pre post : List D) (d : D) (e : Env3) (w : Wd), ds = pre ++ d :: post → J pre e w → ∃ e', G d e = some e' ∧ Sx (s e' w) (J (pre ++ [d])) (J (pre ++ [d])) N R) (hN : ∀ e w, J ds e w → N e w) : Sx (forL G s ds env w) N C B R := by
  suffices h : ∀ (post pre : List D) (e : Env3) (w : Wd), ds = pre ++ post → J pre e w → Sx (forL G s post e w) N C B R from h ds [] env w rfl h0
  intro post
  induction post with
  | nil =>
    intro pre e w eq h
    rw [List.append_nil] at eq
    exact hN e w (eq ▸ h)
  | cons d post ih =>
    intro pre e w eq h
    obtain ⟨e', eg, q⟩ := hs pre post d e w eq h
    unfold forL
    rw [eg]
    dsimp only
    cases es : s e' w with
    | nx e2 w2 => rw [es] at q; exact ih (pre ++ [d]) e2 w2 (by rw [eq]; simp) q
    | ct e2 w2 => rw [es] at q; exact ih (pre ++ [d]) e2 w2 (by rw [eq]; simp) q
    | bk e2 w2 => rw [es] at q; exact q
    | ret d2 w2 => rw [es] at q; exact q
    | bad => rw [es] at q; exact q
/-- a while loop, by a measure and what holds ahead of each turn -/
theorem while_inv (J : Nat → Env3 → Wd → Prop) (hs : ∀ (k : Nat) (e : Env3) (w : Wd), J k e w → Ok (ga e w) fun c w' => (c = true → ∃ k', k = k' + 1 ∧ Sx (s e w') (J k') (J k') N R) ∧ (c = false → N e w')) : ∀ (n k : Nat) (env : Env3) (w : Wd), k < n → J k env w → Sx (swhile ga s n env w) N C B R
  | 0, k, env, w, hk, _ => absurd hk (Nat.not_lt_zero _)
  | n + 1, k, env, w, hk, h => by
    have q := hs k env w h
    unfold swhile
    cases eg : ga env w with
    | bad => rw [eg] at q; exact q
    | ok c w' =>
      rw [eg] at q
      cases c with
      | false => exact q.2 rfl
      | true =>
        obtain ⟨k', hk', q2⟩ := q.1 rfl
        subst hk'
        dsimp only
        cases es : s env w' with
        | nx e2 w2 => rw [es] at q2; exact while_inv J hs n k' e2 w2 (by omega) q2
        | ct e2 w2 => rw [es] at q2; exact while_inv J hs n k' e2 w2 (by omega) q2
        | bk e2 w2 => rw [es] at q2; exact q2
        | ret d2 w2 => rw [es] at q2; exact q2
        | bad => rw [es] at q2; exact q2
/-- [f for x in it] (x stands in slot i) -/
theorem lc_inv (J : List D → List D → Wd → Prop) (hit : Ok (fs env w) fun ds w0 => ds.length ≤ SL ∧ J [] [] w0 ∧ i < env.length ∧ (∀ (pre post acc : List D) (d : D) (w : Wd), ds = pre ++ d :: post → J pre acc w → Ok (f (env.set i (some (false, d))) w) fun y w' => J (pre ++ [d]) (acc ++ [y]) w') ∧ ∀ acc w, J ds acc w → P (.lst acc) w) :
    Ok (mlc fs (gn i) tyes f [i] env w) P := by
  unfold mlc
  cases ef : fs env w with
  | bad => rw [ef] at hit; exact hit
  | ok ds w0 =>
    rw [ef] at hit
    obtain ⟨hl, h0, hi, hs, hP⟩ := hit
    dsimp only
    suffices h : ∀ (post pre acc : List D) (w : Wd), ds = pre ++ post → acc.length = pre.length → J pre acc w → Ok (lcL (gn i) tyes f [i] post env w acc) fun acc w => J ds acc w by
      have z := h ds [] [] w0 rfl rfl h0
      cases el : lcL (gn i) tyes f [i] ds env w0 [] with
      | bad => rw [el] at z; exact z
      | ok xs w2 => rw [el] at z; exact hP xs w2 z
    intro post
    induction post with
    | nil =>
      intro pre acc w eq _ h
      rw [List.append_nil] at eq
      subst eq
      exact h
    | cons d post ih =>
      intro pre acc w eq ha h
      have q := hs pre post acc d w eq h
      unfold lcL
      have eg : gn i d (wipeE env [i]) = some (env.set i (some (false, d))) := by
        show gn i d (env.set i none) = _
        unfold gn
        rw [if_pos (by rw [List.length_set]; exact hi), List.set_set]
      rw [eg]
      dsimp only
      show Ok (match f (env.set i (some (false, d))) w with | .bad => .bad | .ok x w3 => if acc.length < SL then lcL (gn i) tyes f [i] post env w3 (acc ++ [x]) else .bad) _
      cases ey : f (env.set i (some (false, d))) w with
      | bad => rw [ey] at q; exact q
      | ok y w' =>
        rw [ey] at q
        have hlt : acc.length < SL := by
          have := congrArg List.length eq
          rw [List.length_append, List.length_cons] at this
          omega
        dsimp only
        rw [if_pos hlt]
        exact ih (pre ++ [d]) (acc ++ [y]) w' (by rw [eq]; simp) (by simp [ha]) q
end
theorem wp_mdisp {ps : List (Str × M3 D)} {env : Env3} {w : Wd} {P : D → Wd → Prop} : Ok (mdisp ps env w) P ↔ Ok (mseq (ps.map (·.2)) env w) fun ds w => ds.length = ps.length ∧ ps.length ≤ 15 ∧ (ps.map (·.1)).Nodup ∧ P (.dic (((ps.map (·.1)).zip ds).map fun q => (.str q.1, q.2))) w := by
  unfold mdisp
  simp only [wp_bind]
  cases mseq (ps.map (·.2)) env w with
  | bad => exact Iff.rfl
  | ok ds w =>
    show Ok ((if _ then _ else _ : M3 D) env w) P ↔ _
    split
    · rename_i h; exact ⟨fun q => ⟨h.1, h.2.1, h.2.2, q⟩, fun q => q.2.2.2⟩
    · rename_i h; exact ⟨fun q => q.elim, fun q => h ⟨q.1, q.2.1, q.2.2.1⟩⟩

theorem dMod_ok {i j : Int} (h : 0 < j) : dMod (.int i) (.int j) = some (.int (i % j)) := if_pos h
theorem dDiv_ok {i j : Int} (h : 0 < j) (h2 : j < 1073741824) : dDiv (.int i) (.int j) = some (.int (i / j)) := if_pos ⟨h, h2⟩
theorem dMul_r {i j : Int} (h1 : -(2 ^ 64) < j) (h2 : j < 2 ^ 64) : dMul (.int i) (.int j) = some (.int (i * j)) := if_pos (.inr ⟨h1, h2⟩)
theorem dMul_l {i j : Int} (h1 : -(2 ^ 64) < i) (h2 : i < 2 ^ 64) : dMul (.int i) (.int j) = some (.int (i * j)) := if_pos (.inl ⟨h1, h2⟩)
/-! one step through the plain functions -/
end L3

set_option Elab.async false
set_option linter.all false
set_option maxRecDepth 100000
set_option maxHeartbeats 4000000
/-! L3Law: what every law's own tools compute: the deck, a draw, a pick. -/
namespace L3
open PySem PySem.Spec PyProof.Rows L2

/-- at least n draws are left -/
structure Good (n : Nat) (w : Wd) : Prop where
  d0 : 0 ≤ w.draws
  d1 : w.draws + n ≤ 2 ^ 60
  b0 : 0 ≤ w.blend
  b1 : w.blend < 2147483587
  c : w.cells.length ≤ 64
theorem Good.mono {m n : Nat} {w : Wd} (g : Good n w) (h : m ≤ n) : Good m w := ⟨g.d0, by have := g.d1; omega, g.b0, g.b1, g.c⟩
theorem Wd.new.good {w : Wd} (h : w.new) {n : Nat} (hn : n ≤ 2 ^ 60) : Good n w := ⟨by rw [h.1]; decide, by rw [h.1]; omega, h.2.1, h.2.2.1, Nat.le_trans h.2.2.2 (by decide)⟩

def gDraw (c1 c2 c3 : Int) : St3 := (sseq (sDraws 0 (m2 dAdd (dkInt 0 (·.draws)) (cst (.int 1))))
    (sseq (spar 2 3 (acons (dkInt 0 (·.draws)) (acons (dkInt 0 (·.blend)) anil)))
    (sseq (sif (tCells 0) (sseq (sPop 0 3)
    (sseq (sif (tst (m2 (dCmp fun i j => decide (j ≤ i)) (evarB 3) (m2 dPow (cst (.int 10)) (cst (.int 18))))) (sseq (sPush 0 (m2 dDiv (evarB 3) (evarB 1)))
    (sret (m2 dMod (mC dInt (acons (evarB 3) anil)) (evarB 1)))) snil)
    (sasg (m2 dAdd (evarB 3) (dkInt 0 (·.blend))) (gn 3)))) snil)
    (sseq (sasg (m2 dMod (m2 dMul (mC dInt (acons (m2 dAdd (m2 dAdd (m2 dMod (mC dInt (acons (evarB 3) anil)) (cst (.int 2147483629))) (m2 dMul (m2 dMul (cst (.int c1)) (evarB 2)) (evarB 2))) (cst (.int c2))) anil)) (cst (.int 40692))) (cst (.int 2147483647))) (gn 4))
    (sseq (sasg (m2 dMod (mC dInt (acons (m2 dAdd (m2 dAdd (m2 dMul (evarB 4) (evarB 4)) (m2 dMul (cst (.int 69621)) (evarB 2))) (cst (.int c3))) anil)) (cst (.int 2147483587))) (gn 4))
    (sret (m2 dMod (m2 dDiv (m2 dMod (mC dInt (acons (m2 dMul (evarB 4) (cst (.int 39373))) anil)) (cst (.int 2147483563))) (cst (.int 64))) (evarB 1))))))))
def mDraw (c1 c2 c3 : Int) : Fun3 := defM 5 (gDraw c1 c2 c3)
theorem draw_ok {c1 c2 c3 b : Int} {n : Nat} {w : Wd} {P : D → Wd → Prop} (h1 : -(2 ^ 64) < c1) (h2 : c1 < 2 ^ 64) (hb : 0 < b) (hb2 : b < 1073741824) (g : Good (n + 1) w) (hP : ∀ (k : Int) (w' : Wd), 0 ≤ k → k < b → Good n w' → P (.int k) w') : Ok (mDraw c1 c2 c3 [.deck, .int b] w) P := by
  obtain ⟨cells, blend, draws⟩ := w
  obtain ⟨d0, d1, b0, b1, hc⟩ := g
  dsimp only at d0 d1 b0 b1 hc
  have fin : ∀ (x : Int) (cs : List Int), cs.length ≤ 64 → P (.int (x % b)) ⟨cs, blend, draws + 1⟩ := fun x cs hcs => hP _ _ (Int.emod_nonneg _ (by omega)) (Int.emod_lt_of_pos _ hb) ⟨by show 0 ≤ draws + 1; omega, by show draws + 1 + n ≤ 2 ^ 60; omega, b0, b1, hcs⟩
  have m1 : ∀ i : Int, -(2 ^ 64) < i % 2147483647 ∧ i % 2147483647 < 2 ^ 64 := fun i => ⟨by omega, by omega⟩
  unfold mDraw gDraw
  repeat (first | (with_reducible first | refine wp_sseq.mpr ?_ | refine wp_set.mpr ?_ | refine wp_sret.mpr ?_ | refine wp_sif.mpr ?_ | refine wp_snil.mpr ?_ | refine wp_sdrop.mpr ?_ | refine wp_sfor.mpr ?_ | refine wp_spar.mpr ?_ | refine wp_saug.mpr ?_ | refine wp_son.mpr ?_ | refine wp_sapp.mpr ?_ | refine wp_sDraws.mpr ?_ | refine wp_sPop.mpr ?_ | refine wp_sPush.mpr ?_ | refine wp_m2.mpr ?_ | refine wp_evarB.mpr ?_ | refine wp_evar.mpr ?_ | refine wp_cst.mpr ?_ | refine wp_mC.mpr ?_ | refine wp_acons.mpr ?_ | refine wp_anil.mpr ?_ | refine wp_callM.mpr ?_ | refine wp_kwM.mpr ?_ | refine wp_mtup.mpr ?_ | refine wp_mlst.mpr ?_ | refine wp_msl.mpr ?_ | refine wp_onone.mpr ?_ | refine wp_osome.mpr ?_ | refine wp_tst.mpr ?_ | refine wp_tru.mpr ?_ | refine wp_tnot.mpr ?_ | refine wp_tand.mpr ?_ | refine wp_tor.mpr ?_ | refine wp_vand.mpr ?_ | refine wp_vor.mpr ?_ | refine wp_vnot.mpr ?_ | refine wp_vif.mpr ?_ | refine wp_tyes.mpr ?_ | refine wp_mM.mpr ?_ | refine wp_mneg.mpr ?_ | refine wp_mrevL.mpr ?_ | refine wp_mlenSet.mpr ?_ | refine wp_misi.mpr ?_ | refine wp_dkInt.mpr ?_ | refine wp_tCells.mpr ?_ | refine wp_iseq.mpr ?_ | refine wp_itup.mpr ?_ | refine wp_istr.mpr ?_ | refine wp_irng1.mpr ?_ | refine wp_defM.mpr ?_ | refine wp_starM.mpr ?_ | refine wp_mdisp.mpr ?_ | refine wp_sasg.mpr ?_) | (first | refine ⟨_, rfl, ?_⟩ | refine ⟨_, _, rfl, ?_⟩ | refine ⟨rfl, ?_⟩ | refine ⟨by (exact Nat.le_of_ble_eq_true rfl), ?_⟩ | refine ⟨_, by (first | rfl | exact dMod_ok (by (((try dsimp only); omega))) | exact dDiv_ok (by (((try dsimp only); omega))) (by (((try dsimp only); omega))) | exact dMul_r (by (((try dsimp only); omega))) (by (((try dsimp only); omega))) | exact dMul_l (by (((try dsimp only); omega))) (by (((try dsimp only); omega))) | assumption), ?_⟩ | refine ⟨_, _, rfl, by (exact Nat.le_of_ble_eq_true rfl), by (exact Nat.le_of_ble_eq_true rfl), ?_⟩))
  refine ⟨by show cells.length ≤ 1000; omega, fun h => ?_, fun h => ?_⟩
  · have hne : cells ≠ [] := by
      intro z; subst z; cases h
    repeat (first | (with_reducible first | refine wp_sseq.mpr ?_ | refine wp_set.mpr ?_ | refine wp_sret.mpr ?_ | refine wp_sif.mpr ?_ | refine wp_snil.mpr ?_ | refine wp_sdrop.mpr ?_ | refine wp_sfor.mpr ?_ | refine wp_spar.mpr ?_ | refine wp_saug.mpr ?_ | refine wp_son.mpr ?_ | refine wp_sapp.mpr ?_ | refine wp_sDraws.mpr ?_ | refine wp_sPop.mpr ?_ | refine wp_sPush.mpr ?_ | refine wp_m2.mpr ?_ | refine wp_evarB.mpr ?_ | refine wp_evar.mpr ?_ | refine wp_cst.mpr ?_ | refine wp_mC.mpr ?_ | refine wp_acons.mpr ?_ | refine wp_anil.mpr ?_ | refine wp_callM.mpr ?_ | refine wp_kwM.mpr ?_ | refine wp_mtup.mpr ?_ | refine wp_mlst.mpr ?_ | refine wp_msl.mpr ?_ | refine wp_onone.mpr ?_ | refine wp_osome.mpr ?_ | refine wp_tst.mpr ?_ | refine wp_tru.mpr ?_ | refine wp_tnot.mpr ?_ | refine wp_tand.mpr ?_ | refine wp_tor.mpr ?_ | refine wp_vand.mpr ?_ | refine wp_vor.mpr ?_ | refine wp_vnot.mpr ?_ | refine wp_vif.mpr ?_ | refine wp_tyes.mpr ?_ | refine wp_mM.mpr ?_ | refine wp_mneg.mpr ?_ | refine wp_mrevL.mpr ?_ | refine wp_mlenSet.mpr ?_ | refine wp_misi.mpr ?_ | refine wp_dkInt.mpr ?_ | refine wp_tCells.mpr ?_ | refine wp_iseq.mpr ?_ | refine wp_itup.mpr ?_ | refine wp_istr.mpr ?_ | refine wp_irng1.mpr ?_ | refine wp_defM.mpr ?_ | refine wp_starM.mpr ?_ | refine wp_mdisp.mpr ?_ | refine wp_sasg.mpr ?_) | (first | refine ⟨_, rfl, ?_⟩ | refine ⟨_, _, rfl, ?_⟩ | refine ⟨rfl, ?_⟩ | refine ⟨by (exact Nat.le_of_ble_eq_true rfl), ?_⟩ | refine ⟨_, by (first | rfl | exact dMod_ok (by (((try dsimp only); omega))) | exact dDiv_ok (by (((try dsimp only); omega))) (by (((try dsimp only); omega))) | exact dMul_r (by (((try dsimp only); omega))) (by (((try dsimp only); omega))) | exact dMul_l (by (((try dsimp only); omega))) (by (((try dsimp only); omega))) | assumption), ?_⟩ | refine ⟨_, _, rfl, by (exact Nat.le_of_ble_eq_true rfl), by (exact Nat.le_of_ble_eq_true rfl), ?_⟩))
    obtain ⟨m, em⟩ : ∃ m, cells.getLast? = some m := by
      cases e : cells.getLast? with
      | none => rw [List.getLast?_eq_none_iff] at e; exact absurd e hne
      | some m => exact ⟨m, rfl⟩
    have hd : cells.dropLast.length + 1 = cells.length := by
      have := List.length_pos_iff.mpr hne
      rw [List.length_dropLast]; omega
    refine ⟨m, em, ?_⟩
    repeat (first | (with_reducible first | refine wp_sseq.mpr ?_ | refine wp_set.mpr ?_ | refine wp_sret.mpr ?_ | refine wp_sif.mpr ?_ | refine wp_snil.mpr ?_ | refine wp_sdrop.mpr ?_ | refine wp_sfor.mpr ?_ | refine wp_spar.mpr ?_ | refine wp_saug.mpr ?_ | refine wp_son.mpr ?_ | refine wp_sapp.mpr ?_ | refine wp_sDraws.mpr ?_ | refine wp_sPop.mpr ?_ | refine wp_sPush.mpr ?_ | refine wp_m2.mpr ?_ | refine wp_evarB.mpr ?_ | refine wp_evar.mpr ?_ | refine wp_cst.mpr ?_ | refine wp_mC.mpr ?_ | refine wp_acons.mpr ?_ | refine wp_anil.mpr ?_ | refine wp_callM.mpr ?_ | refine wp_kwM.mpr ?_ | refine wp_mtup.mpr ?_ | refine wp_mlst.mpr ?_ | refine wp_msl.mpr ?_ | refine wp_onone.mpr ?_ | refine wp_osome.mpr ?_ | refine wp_tst.mpr ?_ | refine wp_tru.mpr ?_ | refine wp_tnot.mpr ?_ | refine wp_tand.mpr ?_ | refine wp_tor.mpr ?_ | refine wp_vand.mpr ?_ | refine wp_vor.mpr ?_ | refine wp_vnot.mpr ?_ | refine wp_vif.mpr ?_ | refine wp_tyes.mpr ?_ | refine wp_mM.mpr ?_ | refine wp_mneg.mpr ?_ | refine wp_mrevL.mpr ?_ | refine wp_mlenSet.mpr ?_ | refine wp_misi.mpr ?_ | refine wp_dkInt.mpr ?_ | refine wp_tCells.mpr ?_ | refine wp_iseq.mpr ?_ | refine wp_itup.mpr ?_ | refine wp_istr.mpr ?_ | refine wp_irng1.mpr ?_ | refine wp_defM.mpr ?_ | refine wp_starM.mpr ?_ | refine wp_mdisp.mpr ?_ | refine wp_sasg.mpr ?_) | (first | refine ⟨_, rfl, ?_⟩ | refine ⟨_, _, rfl, ?_⟩ | refine ⟨rfl, ?_⟩ | refine ⟨by (exact Nat.le_of_ble_eq_true rfl), ?_⟩ | refine ⟨_, by (first | rfl | exact dMod_ok (by (((try dsimp only); omega))) | exact dDiv_ok (by (((try dsimp only); omega))) (by (((try dsimp only); omega))) | exact dMul_r (by (((try dsimp only); omega))) (by (((try dsimp only); omega))) | exact dMul_l (by (((try dsimp only); omega))) (by (((try dsimp only); omega))) | assumption), ?_⟩ | refine ⟨_, _, rfl, by (exact Nat.le_of_ble_eq_true rfl), by (exact Nat.le_of_ble_eq_true rfl), ?_⟩))
    refine ⟨fun h2 => ?_, fun h2 => ?_⟩
    · repeat (first | (with_reducible first | refine wp_sseq.mpr ?_ | refine wp_set.mpr ?_ | refine wp_sret.mpr ?_ | refine wp_sif.mpr ?_ | refine wp_snil.mpr ?_ | refine wp_sdrop.mpr ?_ | refine wp_sfor.mpr ?_ | refine wp_spar.mpr ?_ | refine wp_saug.mpr ?_ | refine wp_son.mpr ?_ | refine wp_sapp.mpr ?_ | refine wp_sDraws.mpr ?_ | refine wp_sPop.mpr ?_ | refine wp_sPush.mpr ?_ | refine wp_m2.mpr ?_ | refine wp_evarB.mpr ?_ | refine wp_evar.mpr ?_ | refine wp_cst.mpr ?_ | refine wp_mC.mpr ?_ | refine wp_acons.mpr ?_ | refine wp_anil.mpr ?_ | refine wp_callM.mpr ?_ | refine wp_kwM.mpr ?_ | refine wp_mtup.mpr ?_ | refine wp_mlst.mpr ?_ | refine wp_msl.mpr ?_ | refine wp_onone.mpr ?_ | refine wp_osome.mpr ?_ | refine wp_tst.mpr ?_ | refine wp_tru.mpr ?_ | refine wp_tnot.mpr ?_ | refine wp_tand.mpr ?_ | refine wp_tor.mpr ?_ | refine wp_vand.mpr ?_ | refine wp_vor.mpr ?_ | refine wp_vnot.mpr ?_ | refine wp_vif.mpr ?_ | refine wp_tyes.mpr ?_ | refine wp_mM.mpr ?_ | refine wp_mneg.mpr ?_ | refine wp_mrevL.mpr ?_ | refine wp_mlenSet.mpr ?_ | refine wp_misi.mpr ?_ | refine wp_dkInt.mpr ?_ | refine wp_tCells.mpr ?_ | refine wp_iseq.mpr ?_ | refine wp_itup.mpr ?_ | refine wp_istr.mpr ?_ | refine wp_irng1.mpr ?_ | refine wp_defM.mpr ?_ | refine wp_starM.mpr ?_ | refine wp_mdisp.mpr ?_ | refine wp_sasg.mpr ?_) | (first | refine ⟨_, rfl, ?_⟩ | refine ⟨_, _, rfl, ?_⟩ | refine ⟨rfl, ?_⟩ | refine ⟨by (exact Nat.le_of_ble_eq_true rfl), ?_⟩ | refine ⟨_, by (first | rfl | exact dMod_ok (by (((try dsimp only); omega))) | exact dDiv_ok (by (((try dsimp only); omega))) (by (((try dsimp only); omega))) | exact dMul_r (by (((try dsimp only); omega))) (by (((try dsimp only); omega))) | exact dMul_l (by (((try dsimp only); omega))) (by (((try dsimp only); omega))) | assumption), ?_⟩ | refine ⟨_, _, rfl, by (exact Nat.le_of_ble_eq_true rfl), by (exact Nat.le_of_ble_eq_true rfl), ?_⟩))
      refine ⟨by show cells.dropLast.length < 1000; omega, ?_⟩
      repeat (first | (with_reducible first | refine wp_sseq.mpr ?_ | refine wp_set.mpr ?_ | refine wp_sret.mpr ?_ | refine wp_sif.mpr ?_ | refine wp_snil.mpr ?_ | refine wp_sdrop.mpr ?_ | refine wp_sfor.mpr ?_ | refine wp_spar.mpr ?_ | refine wp_saug.mpr ?_ | refine wp_son.mpr ?_ | refine wp_sapp.mpr ?_ | refine wp_sDraws.mpr ?_ | refine wp_sPop.mpr ?_ | refine wp_sPush.mpr ?_ | refine wp_m2.mpr ?_ | refine wp_evarB.mpr ?_ | refine wp_evar.mpr ?_ | refine wp_cst.mpr ?_ | refine wp_mC.mpr ?_ | refine wp_acons.mpr ?_ | refine wp_anil.mpr ?_ | refine wp_callM.mpr ?_ | refine wp_kwM.mpr ?_ | refine wp_mtup.mpr ?_ | refine wp_mlst.mpr ?_ | refine wp_msl.mpr ?_ | refine wp_onone.mpr ?_ | refine wp_osome.mpr ?_ | refine wp_tst.mpr ?_ | refine wp_tru.mpr ?_ | refine wp_tnot.mpr ?_ | refine wp_tand.mpr ?_ | refine wp_tor.mpr ?_ | refine wp_vand.mpr ?_ | refine wp_vor.mpr ?_ | refine wp_vnot.mpr ?_ | refine wp_vif.mpr ?_ | refine wp_tyes.mpr ?_ | refine wp_mM.mpr ?_ | refine wp_mneg.mpr ?_ | refine wp_mrevL.mpr ?_ | refine wp_mlenSet.mpr ?_ | refine wp_misi.mpr ?_ | refine wp_dkInt.mpr ?_ | refine wp_tCells.mpr ?_ | refine wp_iseq.mpr ?_ | refine wp_itup.mpr ?_ | refine wp_istr.mpr ?_ | refine wp_irng1.mpr ?_ | refine wp_defM.mpr ?_ | refine wp_starM.mpr ?_ | refine wp_mdisp.mpr ?_ | refine wp_sasg.mpr ?_) | (first | refine ⟨_, rfl, ?_⟩ | refine ⟨_, _, rfl, ?_⟩ | refine ⟨rfl, ?_⟩ | refine ⟨by (exact Nat.le_of_ble_eq_true rfl), ?_⟩ | refine ⟨_, by (first | rfl | exact dMod_ok (by (((try dsimp only); omega))) | exact dDiv_ok (by (((try dsimp only); omega))) (by (((try dsimp only); omega))) | exact dMul_r (by (((try dsimp only); omega))) (by (((try dsimp only); omega))) | exact dMul_l (by (((try dsimp only); omega))) (by (((try dsimp only); omega))) | assumption), ?_⟩ | refine ⟨_, _, rfl, by (exact Nat.le_of_ble_eq_true rfl), by (exact Nat.le_of_ble_eq_true rfl), ?_⟩))
      exact fin m (cells.dropLast ++ [m / b]) (by rw [List.length_append]; show cells.dropLast.length + 1 ≤ 64; omega)
    · repeat (first | (with_reducible first | refine wp_sseq.mpr ?_ | refine wp_set.mpr ?_ | refine wp_sret.mpr ?_ | refine wp_sif.mpr ?_ | refine wp_snil.mpr ?_ | refine wp_sdrop.mpr ?_ | refine wp_sfor.mpr ?_ | refine wp_spar.mpr ?_ | refine wp_saug.mpr ?_ | refine wp_son.mpr ?_ | refine wp_sapp.mpr ?_ | refine wp_sDraws.mpr ?_ | refine wp_sPop.mpr ?_ | refine wp_sPush.mpr ?_ | refine wp_m2.mpr ?_ | refine wp_evarB.mpr ?_ | refine wp_evar.mpr ?_ | refine wp_cst.mpr ?_ | refine wp_mC.mpr ?_ | refine wp_acons.mpr ?_ | refine wp_anil.mpr ?_ | refine wp_callM.mpr ?_ | refine wp_kwM.mpr ?_ | refine wp_mtup.mpr ?_ | refine wp_mlst.mpr ?_ | refine wp_msl.mpr ?_ | refine wp_onone.mpr ?_ | refine wp_osome.mpr ?_ | refine wp_tst.mpr ?_ | refine wp_tru.mpr ?_ | refine wp_tnot.mpr ?_ | refine wp_tand.mpr ?_ | refine wp_tor.mpr ?_ | refine wp_vand.mpr ?_ | refine wp_vor.mpr ?_ | refine wp_vnot.mpr ?_ | refine wp_vif.mpr ?_ | refine wp_tyes.mpr ?_ | refine wp_mM.mpr ?_ | refine wp_mneg.mpr ?_ | refine wp_mrevL.mpr ?_ | refine wp_mlenSet.mpr ?_ | refine wp_misi.mpr ?_ | refine wp_dkInt.mpr ?_ | refine wp_tCells.mpr ?_ | refine wp_iseq.mpr ?_ | refine wp_itup.mpr ?_ | refine wp_istr.mpr ?_ | refine wp_irng1.mpr ?_ | refine wp_defM.mpr ?_ | refine wp_starM.mpr ?_ | refine wp_mdisp.mpr ?_ | refine wp_sasg.mpr ?_) | (first | refine ⟨_, rfl, ?_⟩ | refine ⟨_, _, rfl, ?_⟩ | refine ⟨rfl, ?_⟩ | refine ⟨by (exact Nat.le_of_ble_eq_true rfl), ?_⟩ | refine ⟨_, by (first | rfl | exact dMod_ok (by (((try dsimp only); omega))) | exact dDiv_ok (by (((try dsimp only); omega))) (by (((try dsimp only); omega))) | exact dMul_r (by (((try dsimp only); omega))) (by (((try dsimp only); omega))) | exact dMul_l (by (((try dsimp only); omega))) (by (((try dsimp only); omega))) | assumption), ?_⟩ | refine ⟨_, _, rfl, by (exact Nat.le_of_ble_eq_true rfl), by (exact Nat.le_of_ble_eq_true rfl), ?_⟩))
      exact fin _ cells.dropLast (by omega)
  · repeat (first | (with_reducible first | refine wp_sseq.mpr ?_ | refine wp_set.mpr ?_ | refine wp_sret.mpr ?_ | refine wp_sif.mpr ?_ | refine wp_snil.mpr ?_ | refine wp_sdrop.mpr ?_ | refine wp_sfor.mpr ?_ | refine wp_spar.mpr ?_ | refine wp_saug.mpr ?_ | refine wp_son.mpr ?_ | refine wp_sapp.mpr ?_ | refine wp_sDraws.mpr ?_ | refine wp_sPop.mpr ?_ | refine wp_sPush.mpr ?_ | refine wp_m2.mpr ?_ | refine wp_evarB.mpr ?_ | refine wp_evar.mpr ?_ | refine wp_cst.mpr ?_ | refine wp_mC.mpr ?_ | refine wp_acons.mpr ?_ | refine wp_anil.mpr ?_ | refine wp_callM.mpr ?_ | refine wp_kwM.mpr ?_ | refine wp_mtup.mpr ?_ | refine wp_mlst.mpr ?_ | refine wp_msl.mpr ?_ | refine wp_onone.mpr ?_ | refine wp_osome.mpr ?_ | refine wp_tst.mpr ?_ | refine wp_tru.mpr ?_ | refine wp_tnot.mpr ?_ | refine wp_tand.mpr ?_ | refine wp_tor.mpr ?_ | refine wp_vand.mpr ?_ | refine wp_vor.mpr ?_ | refine wp_vnot.mpr ?_ | refine wp_vif.mpr ?_ | refine wp_tyes.mpr ?_ | refine wp_mM.mpr ?_ | refine wp_mneg.mpr ?_ | refine wp_mrevL.mpr ?_ | refine wp_mlenSet.mpr ?_ | refine wp_misi.mpr ?_ | refine wp_dkInt.mpr ?_ | refine wp_tCells.mpr ?_ | refine wp_iseq.mpr ?_ | refine wp_itup.mpr ?_ | refine wp_istr.mpr ?_ | refine wp_irng1.mpr ?_ | refine wp_defM.mpr ?_ | refine wp_starM.mpr ?_ | refine wp_mdisp.mpr ?_ | refine wp_sasg.mpr ?_) | (first | refine ⟨_, rfl, ?_⟩ | refine ⟨_, _, rfl, ?_⟩ | refine ⟨rfl, ?_⟩ | refine ⟨by (exact Nat.le_of_ble_eq_true rfl), ?_⟩ | refine ⟨_, by (first | rfl | exact dMod_ok (by (((try dsimp only); omega))) | exact dDiv_ok (by (((try dsimp only); omega))) (by (((try dsimp only); omega))) | exact dMul_r (by (((try dsimp only); omega))) (by (((try dsimp only); omega))) | exact dMul_l (by (((try dsimp only); omega))) (by (((try dsimp only); omega))) | assumption), ?_⟩ | refine ⟨_, _, rfl, by (exact Nat.le_of_ble_eq_true rfl), by (exact Nat.le_of_ble_eq_true rfl), ?_⟩))
    exact fin _ cells hc

/-! ### pick -/
def gPick (c1 c2 c3 : Int) : St3 := (sret (m2 dIx (evarB 1) (callM (mDraw c1 c2 c3) 2 (acons (evar 0) (acons (mC dLen (acons (evarB 1) anil)) anil)))))
def mPick (c1 c2 c3 : Int) : Fun3 := defM 2 (gPick c1 c2 c3)
theorem atI_int {α : Type} {xs : List α} {k : Int} (h0 : 0 ≤ k) (h1 : k < xs.length) : ∃ x, atI xs k = some x ∧ xs[k.toNat]? = some x ∧ x ∈ xs := by
  have hk : k.toNat < xs.length := by omega
  have e : atI xs ((k.toNat : Nat) : Int) = xs[k.toNat]? := by
    rw [List.getElem?_eq_getElem hk]
    exact atI_nat (List.getElem?_eq_getElem hk)
  rw [Int.toNat_of_nonneg h0] at e
  rw [e]
  exact ⟨xs[k.toNat], List.getElem?_eq_getElem hk, List.getElem?_eq_getElem hk, List.getElem_mem hk⟩
theorem pick_lst {c1 c2 c3 : Int} {ds : List D} {n : Nat} {w : Wd} {P : D → Wd → Prop} (h1 : -(2 ^ 64) < c1) (h2 : c1 < 2 ^ 64) (hb : 0 < ds.length) (hb2 : ds.length < 1073741824) (g : Good (n + 1) w) (hP : ∀ (d : D) (w' : Wd), d ∈ ds → Good n w' → P d w') : Ok (mPick c1 c2 c3 [.deck, .lst ds] w) P := by
  unfold mPick gPick
  repeat (first | (with_reducible first | refine wp_sseq.mpr ?_ | refine wp_set.mpr ?_ | refine wp_sret.mpr ?_ | refine wp_sif.mpr ?_ | refine wp_snil.mpr ?_ | refine wp_sdrop.mpr ?_ | refine wp_sfor.mpr ?_ | refine wp_spar.mpr ?_ | refine wp_saug.mpr ?_ | refine wp_son.mpr ?_ | refine wp_sapp.mpr ?_ | refine wp_sDraws.mpr ?_ | refine wp_sPop.mpr ?_ | refine wp_sPush.mpr ?_ | refine wp_m2.mpr ?_ | refine wp_evarB.mpr ?_ | refine wp_evar.mpr ?_ | refine wp_cst.mpr ?_ | refine wp_mC.mpr ?_ | refine wp_acons.mpr ?_ | refine wp_anil.mpr ?_ | refine wp_callM.mpr ?_ | refine wp_kwM.mpr ?_ | refine wp_mtup.mpr ?_ | refine wp_mlst.mpr ?_ | refine wp_msl.mpr ?_ | refine wp_onone.mpr ?_ | refine wp_osome.mpr ?_ | refine wp_tst.mpr ?_ | refine wp_tru.mpr ?_ | refine wp_tnot.mpr ?_ | refine wp_tand.mpr ?_ | refine wp_tor.mpr ?_ | refine wp_vand.mpr ?_ | refine wp_vor.mpr ?_ | refine wp_vnot.mpr ?_ | refine wp_vif.mpr ?_ | refine wp_tyes.mpr ?_ | refine wp_mM.mpr ?_ | refine wp_mneg.mpr ?_ | refine wp_mrevL.mpr ?_ | refine wp_mlenSet.mpr ?_ | refine wp_misi.mpr ?_ | refine wp_dkInt.mpr ?_ | refine wp_tCells.mpr ?_ | refine wp_iseq.mpr ?_ | refine wp_itup.mpr ?_ | refine wp_istr.mpr ?_ | refine wp_irng1.mpr ?_ | refine wp_defM.mpr ?_ | refine wp_starM.mpr ?_ | refine wp_mdisp.mpr ?_ | refine wp_sasg.mpr ?_) | (first | refine ⟨_, rfl, ?_⟩ | refine ⟨_, _, rfl, ?_⟩ | refine ⟨rfl, ?_⟩ | refine ⟨by (exact Nat.le_of_ble_eq_true rfl), ?_⟩ | refine ⟨_, by (first | rfl | exact dMod_ok (by (((try dsimp only); omega))) | exact dDiv_ok (by (((try dsimp only); omega))) (by (((try dsimp only); omega))) | exact dMul_r (by (((try dsimp only); omega))) (by (((try dsimp only); omega))) | exact dMul_l (by (((try dsimp only); omega))) (by (((try dsimp only); omega))) | assumption), ?_⟩ | refine ⟨_, _, rfl, by (exact Nat.le_of_ble_eq_true rfl), by (exact Nat.le_of_ble_eq_true rfl), ?_⟩))
  refine draw_ok h1 h2 (by omega) (by omega) g fun k w' k0 k1 g' => ?_
  obtain ⟨x, e, _, hm⟩ := atI_int k0 k1
  exact ⟨x, e, hP x w' hm g'⟩
theorem pick_str {c1 c2 c3 : Int} {z : Str} {n : Nat} {w : Wd} {P : D → Wd → Prop} (h1 : -(2 ^ 64) < c1) (h2 : c1 < 2 ^ 64) (hb : 0 < z.length) (hb2 : z.length ≤ SL) (g : Good (n + 1) w) (hP : ∀ (c : Nat) (w' : Wd), c ∈ z.cps.toList → Good n w' → P (.str (sgn c)) w') : Ok (mPick c1 c2 c3 [.deck, .str z] w) P := by
  have hb3 : z.length < 1073741824 := Nat.lt_of_le_of_lt hb2 (by decide)
  have hl : dLen [.str z] = some (.int z.length) := if_pos hb2
  unfold mPick gPick
  repeat (first | (with_reducible first | refine wp_sseq.mpr ?_ | refine wp_set.mpr ?_ | refine wp_sret.mpr ?_ | refine wp_sif.mpr ?_ | refine wp_snil.mpr ?_ | refine wp_sdrop.mpr ?_ | refine wp_sfor.mpr ?_ | refine wp_spar.mpr ?_ | refine wp_saug.mpr ?_ | refine wp_son.mpr ?_ | refine wp_sapp.mpr ?_ | refine wp_sDraws.mpr ?_ | refine wp_sPop.mpr ?_ | refine wp_sPush.mpr ?_ | refine wp_m2.mpr ?_ | refine wp_evarB.mpr ?_ | refine wp_evar.mpr ?_ | refine wp_cst.mpr ?_ | refine wp_mC.mpr ?_ | refine wp_acons.mpr ?_ | refine wp_anil.mpr ?_ | refine wp_callM.mpr ?_ | refine wp_kwM.mpr ?_ | refine wp_mtup.mpr ?_ | refine wp_mlst.mpr ?_ | refine wp_msl.mpr ?_ | refine wp_onone.mpr ?_ | refine wp_osome.mpr ?_ | refine wp_tst.mpr ?_ | refine wp_tru.mpr ?_ | refine wp_tnot.mpr ?_ | refine wp_tand.mpr ?_ | refine wp_tor.mpr ?_ | refine wp_vand.mpr ?_ | refine wp_vor.mpr ?_ | refine wp_vnot.mpr ?_ | refine wp_vif.mpr ?_ | refine wp_tyes.mpr ?_ | refine wp_mM.mpr ?_ | refine wp_mneg.mpr ?_ | refine wp_mrevL.mpr ?_ | refine wp_mlenSet.mpr ?_ | refine wp_misi.mpr ?_ | refine wp_dkInt.mpr ?_ | refine wp_tCells.mpr ?_ | refine wp_iseq.mpr ?_ | refine wp_itup.mpr ?_ | refine wp_istr.mpr ?_ | refine wp_irng1.mpr ?_ | refine wp_defM.mpr ?_ | refine wp_starM.mpr ?_ | refine wp_mdisp.mpr ?_ | refine wp_sasg.mpr ?_) | (first | refine ⟨_, rfl, ?_⟩ | refine ⟨_, _, rfl, ?_⟩ | refine ⟨rfl, ?_⟩ | refine ⟨by (exact Nat.le_of_ble_eq_true rfl), ?_⟩ | refine ⟨_, by (first | rfl | exact dMod_ok (by (((try dsimp only); omega))) | exact dDiv_ok (by (((try dsimp only); omega))) (by (((try dsimp only); omega))) | exact dMul_r (by (((try dsimp only); omega))) (by (((try dsimp only); omega))) | exact dMul_l (by (((try dsimp only); omega))) (by (((try dsimp only); omega))) | assumption), ?_⟩ | refine ⟨_, _, rfl, by (exact Nat.le_of_ble_eq_true rfl), by (exact Nat.le_of_ble_eq_true rfl), ?_⟩))
  refine draw_ok h1 h2 (by omega) (by omega) g fun k w' k0 k1 g' => ?_
  obtain ⟨x, e, _, hm⟩ := atI_int (xs := z.cps.toList) k0 (by show k < (z.cps.toList.length : Int); rw [Array.length_toList]; exact k1)
  refine ⟨.str (sgn x), ?_, hP x w' hm g'⟩
  show (if z.length ≤ SL then (atI z.cps.toList k).map fun c => D.str ⟨#[c]⟩ else none) = _
  rw [if_pos hb2, e]
  rfl

/-! ### the deck's making -/
def gDeck (b0 : Int) (c3 : Int) : St3 := (sseq (sfor (iseq (evar 1)) (gn 3) (sasg (m2 dMod (mC dInt (acons (m2 dAdd (m2 dAdd (m2 dMul (evarB 2) (cst (.int 48271))) (m2 dMod (mC dInt (acons (evarB 3) anil)) (cst (.int 2147483629)))) (cst (.int c3))) anil)) (cst (.int 2147483587))) (gn 2)))
    (sret (mdisp [(Str.ofString "cells", (mrevL (evarB 1))), (Str.ofString "blend", (evar 2)), (Str.ofString "draws", (cst (.int 0)))])))
theorem Ok.eqS {r : S3} {w0 : Wd} {d : D → Prop} (h : Sx r no2 no2 no2 fun x w => d x ∧ w = w0) : ∃ x, r = .ret x w0 ∧ d x := by
  cases r with
  | ret x w => obtain ⟨h1, rfl⟩ := h; exact ⟨x, rfl, h1⟩
  | _ => exact h.elim
theorem deck_made {b0 c3 : Int} (hb : 0 ≤ b0) (hb2 : b0 < 2147483587) (ns : List Int) (w0 : Wd) (h : ns.length ≤ 63) : ∃ w : Wd, w.new ∧ gDeck b0 c3 [none, some (false, .lst (ns.map D.int)), some (false, .int b0), none] w0 = .ret (deckD w) w0 := by
  suffices q : Sx (gDeck b0 c3 [none, some (false, .lst (ns.map D.int)), some (false, .int b0), none] w0) no2 no2 no2 fun x w => (∃ w : Wd, w.new ∧ x = deckD w) ∧ w = w0 by
    obtain ⟨x, e, w, hw, rfl⟩ := Ok.eqS q
    exact ⟨w, hw, e⟩
  unfold gDeck
  repeat (first | (with_reducible first | refine wp_sseq.mpr ?_ | refine wp_set.mpr ?_ | refine wp_sret.mpr ?_ | refine wp_sif.mpr ?_ | refine wp_snil.mpr ?_ | refine wp_sdrop.mpr ?_ | refine wp_sfor.mpr ?_ | refine wp_spar.mpr ?_ | refine wp_saug.mpr ?_ | refine wp_son.mpr ?_ | refine wp_sapp.mpr ?_ | refine wp_sDraws.mpr ?_ | refine wp_sPop.mpr ?_ | refine wp_sPush.mpr ?_ | refine wp_m2.mpr ?_ | refine wp_evarB.mpr ?_ | refine wp_evar.mpr ?_ | refine wp_cst.mpr ?_ | refine wp_mC.mpr ?_ | refine wp_acons.mpr ?_ | refine wp_anil.mpr ?_ | refine wp_callM.mpr ?_ | refine wp_kwM.mpr ?_ | refine wp_mtup.mpr ?_ | refine wp_mlst.mpr ?_ | refine wp_msl.mpr ?_ | refine wp_onone.mpr ?_ | refine wp_osome.mpr ?_ | refine wp_tst.mpr ?_ | refine wp_tru.mpr ?_ | refine wp_tnot.mpr ?_ | refine wp_tand.mpr ?_ | refine wp_tor.mpr ?_ | refine wp_vand.mpr ?_ | refine wp_vor.mpr ?_ | refine wp_vnot.mpr ?_ | refine wp_vif.mpr ?_ | refine wp_tyes.mpr ?_ | refine wp_mM.mpr ?_ | refine wp_mneg.mpr ?_ | refine wp_mrevL.mpr ?_ | refine wp_mlenSet.mpr ?_ | refine wp_misi.mpr ?_ | refine wp_dkInt.mpr ?_ | refine wp_tCells.mpr ?_ | refine wp_iseq.mpr ?_ | refine wp_itup.mpr ?_ | refine wp_istr.mpr ?_ | refine wp_irng1.mpr ?_ | refine wp_defM.mpr ?_ | refine wp_starM.mpr ?_ | refine wp_mdisp.mpr ?_ | refine wp_sasg.mpr ?_) | (first | refine ⟨_, rfl, ?_⟩ | refine ⟨_, _, rfl, ?_⟩ | refine ⟨rfl, ?_⟩ | refine ⟨by (exact Nat.le_of_ble_eq_true rfl), ?_⟩ | refine ⟨_, by (first | rfl | exact dMod_ok (by (((try dsimp only); omega))) | exact dDiv_ok (by (((try dsimp only); omega))) (by (((try dsimp only); omega))) | exact dMul_r (by (((try dsimp only); omega))) (by (((try dsimp only); omega))) | exact dMul_l (by (((try dsimp only); omega))) (by (((try dsimp only); omega))) | assumption), ?_⟩ | refine ⟨_, _, rfl, by (exact Nat.le_of_ble_eq_true rfl), by (exact Nat.le_of_ble_eq_true rfl), ?_⟩))
  refine for_inv (fun _ e w => w = w0 ∧ ∃ (b : Int) (o : Option (Bool × D)), 0 ≤ b ∧ b < 2147483587 ∧ e = [none, some (false, .lst (ns.map D.int)), some (false, .int b), o]) ⟨rfl, b0, none, hb, hb2, rfl⟩ ?_ ?_
  · rintro pre post d e w eq ⟨rfl, b, o, h0, h1, rfl⟩
    refine ⟨_, rfl, ?_⟩
    obtain ⟨k, rfl⟩ : ∃ k, d = .int k := by
      have hm : d ∈ ns.map D.int := by rw [eq]; simp
      obtain ⟨k, _, rfl⟩ := List.mem_map.mp hm
      exact ⟨k, rfl⟩
    repeat (first | (with_reducible first | refine wp_sseq.mpr ?_ | refine wp_set.mpr ?_ | refine wp_sret.mpr ?_ | refine wp_sif.mpr ?_ | refine wp_snil.mpr ?_ | refine wp_sdrop.mpr ?_ | refine wp_sfor.mpr ?_ | refine wp_spar.mpr ?_ | refine wp_saug.mpr ?_ | refine wp_son.mpr ?_ | refine wp_sapp.mpr ?_ | refine wp_sDraws.mpr ?_ | refine wp_sPop.mpr ?_ | refine wp_sPush.mpr ?_ | refine wp_m2.mpr ?_ | refine wp_evarB.mpr ?_ | refine wp_evar.mpr ?_ | refine wp_cst.mpr ?_ | refine wp_mC.mpr ?_ | refine wp_acons.mpr ?_ | refine wp_anil.mpr ?_ | refine wp_callM.mpr ?_ | refine wp_kwM.mpr ?_ | refine wp_mtup.mpr ?_ | refine wp_mlst.mpr ?_ | refine wp_msl.mpr ?_ | refine wp_onone.mpr ?_ | refine wp_osome.mpr ?_ | refine wp_tst.mpr ?_ | refine wp_tru.mpr ?_ | refine wp_tnot.mpr ?_ | refine wp_tand.mpr ?_ | refine wp_tor.mpr ?_ | refine wp_vand.mpr ?_ | refine wp_vor.mpr ?_ | refine wp_vnot.mpr ?_ | refine wp_vif.mpr ?_ | refine wp_tyes.mpr ?_ | refine wp_mM.mpr ?_ | refine wp_mneg.mpr ?_ | refine wp_mrevL.mpr ?_ | refine wp_mlenSet.mpr ?_ | refine wp_misi.mpr ?_ | refine wp_dkInt.mpr ?_ | refine wp_tCells.mpr ?_ | refine wp_iseq.mpr ?_ | refine wp_itup.mpr ?_ | refine wp_istr.mpr ?_ | refine wp_irng1.mpr ?_ | refine wp_defM.mpr ?_ | refine wp_starM.mpr ?_ | refine wp_mdisp.mpr ?_ | refine wp_sasg.mpr ?_) | (first | refine ⟨_, rfl, ?_⟩ | refine ⟨_, _, rfl, ?_⟩ | refine ⟨rfl, ?_⟩ | refine ⟨by (exact Nat.le_of_ble_eq_true rfl), ?_⟩ | refine ⟨_, by (first | rfl | exact dMod_ok (by (((try dsimp only); omega))) | exact dDiv_ok (by (((try dsimp only); omega))) (by (((try dsimp only); omega))) | exact dMul_r (by (((try dsimp only); omega))) (by (((try dsimp only); omega))) | exact dMul_l (by (((try dsimp only); omega))) (by (((try dsimp only); omega))) | assumption), ?_⟩ | refine ⟨_, _, rfl, by (exact Nat.le_of_ble_eq_true rfl), by (exact Nat.le_of_ble_eq_true rfl), ?_⟩))
    refine ⟨_, _, ?_, ?_, rfl⟩
    · omega
    · omega
  · rintro e w ⟨rfl, b, o, h0, h1, rfl⟩
    repeat (first | (with_reducible first | refine wp_sseq.mpr ?_ | refine wp_set.mpr ?_ | refine wp_sret.mpr ?_ | refine wp_sif.mpr ?_ | refine wp_snil.mpr ?_ | refine wp_sdrop.mpr ?_ | refine wp_sfor.mpr ?_ | refine wp_spar.mpr ?_ | refine wp_saug.mpr ?_ | refine wp_son.mpr ?_ | refine wp_sapp.mpr ?_ | refine wp_sDraws.mpr ?_ | refine wp_sPop.mpr ?_ | refine wp_sPush.mpr ?_ | refine wp_m2.mpr ?_ | refine wp_evarB.mpr ?_ | refine wp_evar.mpr ?_ | refine wp_cst.mpr ?_ | refine wp_mC.mpr ?_ | refine wp_acons.mpr ?_ | refine wp_anil.mpr ?_ | refine wp_callM.mpr ?_ | refine wp_kwM.mpr ?_ | refine wp_mtup.mpr ?_ | refine wp_mlst.mpr ?_ | refine wp_msl.mpr ?_ | refine wp_onone.mpr ?_ | refine wp_osome.mpr ?_ | refine wp_tst.mpr ?_ | refine wp_tru.mpr ?_ | refine wp_tnot.mpr ?_ | refine wp_tand.mpr ?_ | refine wp_tor.mpr ?_ | refine wp_vand.mpr ?_ | refine wp_vor.mpr ?_ | refine wp_vnot.mpr ?_ | refine wp_vif.mpr ?_ | refine wp_tyes.mpr ?_ | refine wp_mM.mpr ?_ | refine wp_mneg.mpr ?_ | refine wp_mrevL.mpr ?_ | refine wp_mlenSet.mpr ?_ | refine wp_misi.mpr ?_ | refine wp_dkInt.mpr ?_ | refine wp_tCells.mpr ?_ | refine wp_iseq.mpr ?_ | refine wp_itup.mpr ?_ | refine wp_istr.mpr ?_ | refine wp_irng1.mpr ?_ | refine wp_defM.mpr ?_ | refine wp_starM.mpr ?_ | refine wp_mdisp.mpr ?_ | refine wp_sasg.mpr ?_) | (first | refine ⟨_, rfl, ?_⟩ | refine ⟨_, _, rfl, ?_⟩ | refine ⟨rfl, ?_⟩ | refine ⟨by (exact Nat.le_of_ble_eq_true rfl), ?_⟩ | refine ⟨_, by (first | rfl | exact dMod_ok (by (((try dsimp only); omega))) | exact dDiv_ok (by (((try dsimp only); omega))) (by (((try dsimp only); omega))) | exact dMul_r (by (((try dsimp only); omega))) (by (((try dsimp only); omega))) | exact dMul_l (by (((try dsimp only); omega))) (by (((try dsimp only); omega))) | assumption), ?_⟩ | refine ⟨_, _, rfl, by (exact Nat.le_of_ble_eq_true rfl), by (exact Nat.le_of_ble_eq_true rfl), ?_⟩))
    refine ⟨by decide, ⟨⟨ns.reverse, b, 0⟩, ⟨rfl, h0, h1, by show ns.reverse.length ≤ 63; rw [List.length_reverse]; exact h⟩, ?_⟩, rfl⟩
    show D.dic [(.str (Str.ofString "cells"), .lst (ns.map D.int).reverse), (.str (Str.ofString "blend"), .int b), (.str (Str.ofString "draws"), .int 0)] = _
    rw [← List.map_reverse]
    rfl
end L3

set_option Elab.async false
set_option linter.all false
set_option maxRecDepth 100000
set_option maxHeartbeats 4000000
/-! L3Text: texts as lists of signs; reprs that stand. -/
namespace L3
open PySem PySem.Spec PyProof.Rows L2

def mkT (l : List Nat) : Str := ⟨l.toArray⟩
def tx (l : List Nat) : D := .str (mkT l)
theorem mkT_len (l : List Nat) : (mkT l).length = l.length := by simp [mkT, Str.length]
theorem mkT_list (l : List Nat) : (mkT l).cps.toList = l := rfl
theorem mkT_inj {a b : List Nat} (h : mkT a = mkT b) : a = b := by
  have := congrArg (fun s : Str => s.cps.toList) h
  exact this
theorem tx_sgn (c : Nat) : tx [c] = .str (sgn c) := rfl
theorem str_tx (z : Str) : (D.str z) = tx z.cps.toList := by
  show D.str z = D.str ⟨z.cps.toList.toArray⟩
  rw [Array.toArray_toList]
theorem mkT_app (a b : List Nat) : mkT a ++ mkT b = mkT (a ++ b) := by
  show (⟨_⟩ : Str) = _
  simp [mkT]
theorem dLen_tx {l : List Nat} (h : l.length ≤ SL) : dLen [tx l] = some (.int l.length) := by
  show (if (mkT l).length ≤ SL then some (D.int (mkT l).length) else none) = _
  rw [mkT_len, if_pos h]
theorem dLen_lst {l : List D} : dLen [.lst l] = some (.int l.length) := rfl
theorem dAdd_tx {a b : List Nat} (h : a.length + b.length ≤ SL) : dAdd (tx a) (tx b) = some (tx (a ++ b)) := by
  show (if (mkT a).length + (mkT b).length ≤ SL then some (D.str (mkT a ++ mkT b)) else none) = _
  rw [mkT_len, mkT_len, if_pos h, mkT_app]
  rfl
theorem dAdd_lst {a b : List D} (h : a.length + b.length ≤ SL) : dAdd (.lst a) (.lst b) = some (.lst (a ++ b)) := if_pos h
theorem dIx_tx {l : List Nat} {i : Nat} (hl : l.length ≤ SL) (h : i < l.length) : dIx (tx l) (.int i) = some (tx [l[i]]) := by
  show (if (mkT l).length ≤ SL then (atI (mkT l).cps.toList i).map fun c => D.str ⟨#[c]⟩ else none) = _
  rw [mkT_len, if_pos hl, mkT_list, atI_nat (List.getElem?_eq_getElem h)]
  rfl
theorem dIx_lst {l : List D} {i : Nat} (h : i < l.length) : dIx (.lst l) (.int i) = some l[i] := atI_nat (List.getElem?_eq_getElem h)
theorem dIx_tup {l : List D} {i : Nat} (h : i < l.length) : dIx (.tup l) (.int i) = some l[i] := atI_nat (List.getElem?_eq_getElem h)
theorem dIx_tup0 {x : D} {l : List D} : dIx (.tup (x :: l)) (.int 0) = some x := atI_nat (j := 0) rfl
theorem dIx_lst0 {x : D} {l : List D} : dIx (.lst (x :: l)) (.int 0) = some x := atI_nat (j := 0) rfl
theorem dIx_lst_last {l : List D} (h : l ≠ []) : dIx (.lst l) (.int (-1)) = some (l.getLast h) := by
  have e : l.dropLast ++ [l.getLast h] = l := List.dropLast_concat_getLast h
  show atI l (-1) = _
  have z := atI_last l.dropLast (l.getLast h)
  rw [e] at z
  exact z
theorem sIx_of (n d : Nat) (k : Nat) : HT.sIx n d (some (k : Int)) = min k n := HT.sIx_nat n d k
theorem dSl_tup1 {x : D} {l : List D} : dSl (.tup (x :: l)) (some 1) none = some (.tup l) := by
  have e1 : HT.sIx (x :: l).length 0 (some 1) = 1 := by
    rw [show (some (1 : Int)) = some ((1 : Nat) : Int) from rfl, sIx_of]; simp
  unfold dSl
  show (if HT.sIx (x :: l).length 0 (some 1) = 0 ∧ HT.sIx (x :: l).length (x :: l).length none = (x :: l).length then none else some (D.tup (cutD (x :: l) (some 1) none))) = _
  rw [if_neg (fun z => by rw [e1] at z; cases z.1)]
  unfold cutD
  rw [e1, HT.sIx_none]
  simp
theorem dSl_to {l : List Nat} {k : Nat} (h : l.length ≤ SL) : dSl (tx l) none (some (k : Int)) = some (tx (l.take k)) := by
  unfold dSl
  show (if (mkT l).length ≤ SL then some (D.str (cutS (mkT l) none (some (k : Int)))) else none) = _
  rw [mkT_len, if_pos h]
  unfold cutS
  rw [mkT_list, mkT_len, HT.sIx_none, sIx_of, List.drop_zero, Nat.sub_zero]
  congr 2
  show mkT _ = mkT _
  congr 1
  rw [List.take_eq_take_iff]
  omega
theorem dSl_from {l : List Nat} {k : Nat} (h : l.length ≤ SL) : dSl (tx l) (some (k : Int)) none = some (tx (l.drop k)) := by
  unfold dSl
  show (if (mkT l).length ≤ SL then some (D.str (cutS (mkT l) (some (k : Int)) none)) else none) = _
  rw [mkT_len, if_pos h]
  unfold cutS
  rw [mkT_list, mkT_len, HT.sIx_none, sIx_of]
  congr 2
  show mkT _ = mkT _
  congr 1
  have e : l.drop (min k l.length) = l.drop k := by
    by_cases hk : k ≤ l.length
    · rw [Nat.min_eq_left hk]
    · rw [Nat.min_eq_right (by omega), List.drop_of_length_le (Nat.le_refl _), List.drop_of_length_le (by omega)]
  rw [e]
  refine List.take_of_length_le ?_
  rw [List.length_drop]
  omega
theorem dEqA_tx {a b : List Nat} : dEqA (tx a) (tx b) = some (.bl (decide (a = b))) := by
  show some (D.bl (decide (mkT a = mkT b))) = _
  congr 2
  rw [decide_eq_decide]
  exact ⟨mkT_inj, fun h => by rw [h]⟩
theorem strsD_tx : ∀ ls : List (List Nat), strsD (ls.map tx) = some (ls.map mkT)
  | [] => rfl
  | l :: r => by
    show (strsD (r.map tx)).map _ = _
    rw [strsD_tx r]
    rfl
theorem join_nil : ∀ ls : List (List Nat), Str.join (mkT []) (ls.map mkT) = mkT ls.flatten
  | [] => rfl
  | [l] => by
    show mkT l = mkT (List.flatten [l])
    simp
  | l :: m :: r => by
    show mkT l ++ mkT [] ++ Str.join (mkT []) (mkT m :: r.map mkT) = _
    have ih := join_nil (m :: r)
    rw [List.map_cons] at ih
    rw [ih, mkT_app, mkT_app]
    simp
theorem dJoin_nil {ls : List (List Nat)} (h : (ls.map List.length).sum ≤ SL) : dJoin (tx []) [.lst (ls.map tx)] = some (tx ls.flatten) := by
  show ((strsD (ls.map tx)).bind fun ys => if (ys.map (·.length)).sum + ys.length * (mkT []).length ≤ SL then some (D.str (Txt.join (mkT []) ys)) else none) = _
  rw [strsD_tx]
  show (if _ then _ else _) = _
  rw [if_pos, TL.join_eq, join_nil]
  · rfl
  · rw [List.map_map, mkT_len]
    have e : ((fun x : Str => x.length) ∘ mkT) = List.length := by funext l; exact mkT_len l
    rw [e]
    simp
    exact h
theorem dListS_tx {l : List Nat} (h : l.length ≤ SL) : dListS [tx l] = some (.lst (l.map fun c => tx [c])) := by
  show (if (mkT l).length ≤ SL then some (D.lst ((mkT l).cps.toList.map fun c => .str (sgn c))) else none) = _
  rw [mkT_len, if_pos h]
  rfl
theorem intsD_ints (ns : List Nat) : intsD (ns.map fun n : Nat => D.int n) = some (ns.map fun n : Nat => (n : Int)) := by
  have := intsD_map (ns.map fun n : Nat => (n : Int))
  rw [List.map_map] at this
  exact this

theorem dMin_lens (y : List Nat) (r : List (List Nat)) : ∃ m : Int, dMin [.lst ((y :: r).map fun z => D.int z.length)] = some (.int m) ∧ ∀ i : Nat, (i : Int) < m ↔ ∀ z ∈ y :: r, i < z.length := by
  have e : intsD ((y :: r).map fun z => D.int z.length) = some ((y :: r).map fun z => (z.length : Int)) := by
    have := intsD_map ((y :: r).map fun z => (z.length : Int))
    rw [List.map_map] at this
    exact this
  have f := foldl_min (r.map fun z => (z.length : Int)) (y.length : Int)
  refine ⟨(r.map fun z => (z.length : Int)).foldl min (y.length : Int), ?_, fun i => ?_⟩
  · show ((intsD ((y :: r).map fun z => D.int z.length)).bind fun ns => match ns with | [] => none | n :: r => some (D.int (r.foldl min n))) = _
    rw [e]
    rfl
  · constructor
    · intro h z hz
      have := f.2 (z.length : Int) (by
        rw [List.mem_cons] at hz
        rcases hz with rfl | hz
        · exact List.mem_cons_self
        · exact List.mem_cons_of_mem _ (List.mem_map_of_mem hz))
      omega
    · intro h
      have hm := f.1
      rw [List.mem_cons] at hm
      rcases hm with hm | hm
      · have := h y List.mem_cons_self
        omega
      · obtain ⟨z, hz, e⟩ := List.mem_map.mp hm
        have := h z (List.mem_cons_of_mem _ hz)
        omega
theorem dLenSet_tx {ls : List (List Nat)} (h : ls.length ≤ 1000) : dLenSet (.lst (ls.map tx)) = some (.int (once (ls.map mkT)).length) := by
  show ((strsD (ls.map tx)).bind fun ys => if ys.length ≤ 1000 then some (D.int (once ys).length) else none) = _
  rw [strsD_tx]
  show (if _ then _ else _) = _
  rw [if_pos (by rw [List.length_map]; exact h)]
/-! ### data that repr shows -/
structure Nice (d : D) (x : PyData) (k n : Nat) : Prop where
  pd : pd d = some x
  lay : x.canLay0 = true
  sh : x.intsShort 8 = true
  ok : x.showable = true
  nd : x.hasDict = false
  dp : x.depth ≤ k
  wt : x.weight ≤ n
structure NiceL (ds : List D) (xs : List PyData) (k n : Nat) : Prop where
  pd : pds ds = some xs
  lay : PyData.canLayAll0 xs = true
  sh : PyData.intsShortAll 8 xs = true
  ok : PyData.showableAll xs = true
  nd : PyData.hasDictAll xs = false
  dp : PyData.depthAll xs ≤ k
  wt : PyData.weightAll xs ≤ n
theorem Nice.tx {l : List Nat} (h : ∀ c ∈ l, c < 0x110000) (k : Nat) : Nice (tx l) (.str (mkT l)) k l.length :=
  ⟨rfl, by show PyData.strOk (mkT l) = true; unfold PyData.strOk; rw [Array.all_eq_true]; intro i hi; exact decide_eq_true (h _ (by simp [mkT])), rfl, rfl, rfl, Nat.zero_le _, by show (mkT l).cps.size ≤ _; simp [mkT]⟩
theorem Nice.bl (b : Bool) (k : Nat) : Nice (.bl b) (.bool b) k 0 := ⟨rfl, rfl, rfl, rfl, rfl, Nat.zero_le _, Nat.le_refl _⟩
theorem Nice.non (k : Nat) : Nice .non .none k 0 := ⟨rfl, rfl, rfl, rfl, rfl, Nat.zero_le _, Nat.le_refl _⟩
theorem NiceL.nil (k : Nat) : NiceL [] [] k 0 := ⟨rfl, rfl, rfl, rfl, rfl, Nat.zero_le _, Nat.le_refl _⟩
theorem NiceL.cons {d : D} {ds : List D} {x : PyData} {xs : List PyData} {k n m : Nat} (a : Nice d x k n) (b : NiceL ds xs k m) : NiceL (d :: ds) (x :: xs) k (n + 1 + m) :=
  ⟨by show (L3.pd d).bind _ = _; rw [a.pd]; show (pds ds).map _ = _; rw [b.pd]; rfl,
   by show (_ && _) = true; rw [a.lay, b.lay]; rfl, by show (_ && _) = true; rw [a.sh, b.sh]; rfl, by show (_ && _) = true; rw [a.ok, b.ok]; rfl, by show (_ || _) = false; rw [a.nd, b.nd]; rfl,
   Nat.max_le.mpr ⟨a.dp, b.dp⟩, by show _ + 1 + _ ≤ _; have := a.wt; have := b.wt; omega⟩
theorem Nice.lst {ds : List D} {xs : List PyData} {k n : Nat} (b : NiceL ds xs k n) : Nice (.lst ds) (.list xs) (k + 1) n :=
  ⟨by show (pds ds).map _ = _; rw [b.pd]; rfl, b.lay, b.sh, b.ok, b.nd, Nat.succ_le_succ b.dp, b.wt⟩
theorem Nice.tup {ds : List D} {xs : List PyData} {k n : Nat} (b : NiceL ds xs k n) : Nice (.tup ds) (.tuple xs) (k + 1) n :=
  ⟨by show (pds ds).map _ = _; rw [b.pd]; rfl, b.lay, b.sh, b.ok, b.nd, Nat.succ_le_succ b.dp, b.wt⟩
theorem Nice.mono {d : D} {x : PyData} {k k' n n' : Nat} (a : Nice d x k n) (hk : k ≤ k') (hn : n ≤ n') : Nice d x k' n' := ⟨a.pd, a.lay, a.sh, a.ok, a.nd, Nat.le_trans a.dp hk, Nat.le_trans a.wt hn⟩
theorem NiceL.all {ds : List D} {k n : Nat} (h : ∀ d ∈ ds, ∃ x, Nice d x k n) : ∃ xs, NiceL ds xs k (ds.length * (n + 1)) := by
  induction ds with
  | nil => exact ⟨[], by rw [List.length_nil, Nat.zero_mul]; exact .nil k⟩
  | cons d ds ih =>
    obtain ⟨x, hx⟩ := h d List.mem_cons_self
    obtain ⟨xs, hxs⟩ := ih fun e he => h e (List.mem_cons_of_mem _ he)
    have := NiceL.cons hx hxs
    exact ⟨_, this.pd, this.lay, this.sh, this.ok, this.nd, this.dp, by have := this.wt; rw [List.length_cons, Nat.succ_mul]; omega⟩
theorem dRepr_nice {l : List D} {x : PyData} {k n : Nat} (h : Nice (.lst l) x k n) (hk : k ≤ 60) (hn : n ≤ 2 ^ 20) : dRepr [.lst l] = some (.str x.shown) := by
  have hs : x.shown.length ≤ sizeLine := PyData.shown_fits_of_layable0 (B := 8) (by decide) (by decide) (by
    unfold PyData.layable0
    rw [h.lay, decide_eq_true (Nat.le_trans h.dp (by omega)), decide_eq_true (Nat.le_trans h.wt hn)]
    rfl) h.sh
  unfold dRepr
  show ((pd (.lst l)).bind fun x => if x.showable && !x.hasDict && decide (x.depth ≤ 60) && decide (x.shown.length ≤ SL) then some (D.str x.shown) else none) = _
  rw [h.pd]
  show (if _ then _ else _) = _
  rw [if_pos]
  rw [h.ok, h.nd, decide_eq_true (Nat.le_trans h.dp hk), decide_eq_true (by rw [← SL_eq]; exact hs)]
  rfl

end L3

set_option Elab.async false
set_option linter.all false
set_option maxRecDepth 100000
set_option maxHeartbeats 4000000
/-! Pre: the longest beginning that some words have alike (plain lists). -/
namespace Pre
def cpl : List Nat → List Nat → Nat
  | a :: x, b :: y => if a = b then cpl x y + 1 else 0
  | _, _ => 0
theorem cpl_iff : ∀ (a b : List Nat) (k : Nat), k ≤ cpl a b ↔ k ≤ a.length ∧ k ≤ b.length ∧ a.take k = b.take k
  | _, _, 0 => by simp
  | [], b, k + 1 => by simp [cpl]
  | a :: x, [], k + 1 => by simp [cpl]
  | a :: x, b :: y, k + 1 => by
    have ih := cpl_iff x y k
    unfold cpl
    by_cases h : a = b
    · subst h
      rw [if_pos rfl, Nat.add_le_add_iff_right, ih]
      simp
    · rw [if_neg h]
      simp [h]
/-- m is the greatest length at which y and all of zs begin alike -/
def Com (y : List Nat) (zs : List (List Nat)) (m : Nat) : Prop := ∀ k, k ≤ m ↔ k ≤ y.length ∧ ∀ z ∈ zs, k ≤ z.length ∧ z.take k = y.take k
theorem Com.le {y : List Nat} {zs : List (List Nat)} {m : Nat} (h : Com y zs m) : m ≤ y.length := ((h m).mp (Nat.le_refl _)).1
theorem com_nil (y : List Nat) : Com y [] y.length := fun k => by simp
theorem com_snoc {y : List Nat} {zs : List (List Nat)} {m : Nat} (z : List Nat) (h : Com y zs m) : Com y (zs ++ [z]) (cpl (y.take m) z) := by
  intro k
  rw [cpl_iff, List.length_take]
  have hm := h.le
  constructor
  · rintro ⟨h1, h2, h3⟩
    have hk : k ≤ m := by omega
    have h4 := (h k).mp hk
    refine ⟨h4.1, fun x hx => ?_⟩
    rw [List.mem_append, List.mem_singleton] at hx
    rcases hx with hx | rfl
    · exact h4.2 x hx
    · rw [List.take_take, Nat.min_eq_left hk] at h3
      exact ⟨h2, h3.symm⟩
  · rintro ⟨h1, h2⟩
    have hk : k ≤ m := (h k).mpr ⟨h1, fun x hx => h2 x (List.mem_append_left _ hx)⟩
    have h3 := h2 z (by simp)
    refine ⟨by omega, h3.1, ?_⟩
    rw [List.take_take, Nat.min_eq_left hk]
    exact h3.2.symm
theorem com_ex (y : List Nat) (zs : List (List Nat)) : ∃ m, Com y zs m := by
  suffices h : ∀ (post pre : List (List Nat)) (m : Nat), Com y pre m → ∃ m, Com y (pre ++ post) m by
    exact h zs [] _ (com_nil y)
  intro post
  induction post with
  | nil => intro pre m h; exact ⟨m, by rw [List.append_nil]; exact h⟩
  | cons z post ih =>
    intro pre m h
    obtain ⟨m', h'⟩ := ih (pre ++ [z]) _ (com_snoc z h)
    exact ⟨m', by rw [List.append_assoc] at h'; exact h'⟩
theorem com_iff {y : List Nat} {zs : List (List Nat)} {m : Nat} (h : Com y zs m) (k : Nat) : k ≤ m ↔ ∀ z ∈ y :: zs, ∀ x ∈ y :: zs, k ≤ z.length ∧ z.take k = x.take k := by
  rw [h k]
  constructor
  · rintro ⟨h1, h2⟩ z hz x hx
    have f : ∀ z ∈ y :: zs, k ≤ z.length ∧ z.take k = y.take k := fun z hz => by
      rw [List.mem_cons] at hz
      rcases hz with rfl | hz
      · exact ⟨h1, rfl⟩
      · exact h2 z hz
    exact ⟨(f z hz).1, (f z hz).2.trans (f x hx).2.symm⟩
  · intro f
    exact ⟨(f y List.mem_cons_self y List.mem_cons_self).1, fun z hz => f z (List.mem_cons_of_mem _ hz) y List.mem_cons_self⟩
theorem com_uniq {y y' : List Nat} {zs zs' : List (List Nat)} {m m' : Nat} (h : Com y zs m) (h' : Com y' zs' m') (e : ∀ z, z ∈ y :: zs ↔ z ∈ y' :: zs') : m = m' ∧ y.take m = y'.take m' := by
  have q : ∀ k, k ≤ m ↔ k ≤ m' := fun k => by
    rw [com_iff h, com_iff h']
    constructor
    · exact fun f z hz x hx => f z ((e z).mpr hz) x ((e x).mpr hx)
    · exact fun f z hz x hx => f z ((e z).mp hz) x ((e x).mp hx)
  have em : m = m' := Nat.le_antisymm ((q m).mp (Nat.le_refl _)) ((q m').mpr (Nat.le_refl _))
  subst em
  exact ⟨rfl, ((com_iff h m).mp (Nat.le_refl _) y List.mem_cons_self y' ((e y').mpr List.mem_cons_self)).2⟩
end Pre

set_option Elab.async false
set_option linter.all false
set_option maxRecDepth 100000
set_option maxHeartbeats 4000000
/-! K02G: printed by gen.py from the row's text: each def as a plain function, and that it computes it. -/
namespace K02
open PySem PySem.Spec PyProof.Rows L2 L3
def top (i : Nat) : Stmt := PySem.Challenge.pw_onegoing_k02_words.main.body.getD i (.Pass ⟨0, 0, 0, 0⟩)
structure Txt (K : PySem.W.Frag) (mg : Str → Option Value) (fa : Nat → Addr) : Prop where
  b_all : mg "all" = none
  b_int : mg "int" = none
  b_isinstance : mg "isinstance" = none
  b_len : mg "len" = none
  b_list : mg "list" = none
  b_min : mg "min" = none
  b_range : mg "range" = none
  b_repr : mg "repr" = none
  b_set : mg "set" = none
  b_str : mg "str" = none
  t_LETTERS : ∃ t, mg "LETTERS" = some (.str (Str.ofString "abcdefghijklmnopqrstuvwxyz") t)
  c_l_alike : mg "_law_alike" = some (.ref (fa 6))
  k_l_alike : PySem.W.keepIn K (.ref (fa 6)) = true
  c_l_draw : mg "_law_draw" = some (.ref (fa 4))
  k_l_draw : PySem.W.keepIn K (.ref (fa 4)) = true
  c_l_drawn : mg "_law_drawn" = some (.ref (fa 8))
  k_l_drawn : PySem.W.keepIn K (.ref (fa 8)) = true
  c_l_five : mg "_law_five" = some (.ref (fa 7))
  k_l_five : PySem.W.keepIn K (.ref (fa 7)) = true
  c_l_pick : mg "_law_pick" = some (.ref (fa 5))
  k_l_pick : PySem.W.keepIn K (.ref (fa 5)) = true
  c_l_right : mg "_law_right" = some (.ref (fa 9))
  k_l_right : PySem.W.keepIn K (.ref (fa 9)) = true
  c_common_prefix : mg "common_prefix" = some (.ref (fa 1))
  k_common_prefix : PySem.W.keepIn K (.ref (fa 1)) = true
  c_delay : mg "delay" = some (.ref (fa 2))
  k_delay : PySem.W.keepIn K (.ref (fa 2)) = true
  c_is_word : mg "is_word" = some (.ref (fa 0))
  k_is_word : PySem.W.keepIn K (.ref (fa 0)) = true
  c_l_deck : mg "_law_deck" = some (.ref (fa 3))
  k_l_deck : PySem.W.keepIn K (.ref (fa 3)) = true
def kw_delay_10 {α : Type} (l : List α) : List α := kwP [1, 0] l
theorem kw_delay_10_rel {M : Ms} {F : FS} {H : Hp} {ds : List D} {vs : List V} (r : RelDs M F H ds vs) : RelDs M F H (kw_delay_10 ds) (kw_delay_10 vs) := kwP_rel _ r
theorem kw_delay_10_len (ds : List D) (h : (kw_delay_10 ds).length = 2) : ds.length = 2 := kwP_len (by decide) rfl ds h
def kw_is_word_0 {α : Type} (l : List α) : List α := kwP [0] l
theorem kw_is_word_0_rel {M : Ms} {F : FS} {H : Hp} {ds : List D} {vs : List V} (r : RelDs M F H ds vs) : RelDs M F H (kw_is_word_0 ds) (kw_is_word_0 vs) := kwP_rel _ r
theorem kw_is_word_0_len (ds : List D) (h : (kw_is_word_0 ds).length = 1) : ds.length = 1 := kwP_len (by decide) rfl ds h
abbrev own0 : List (Str × Nat) := [("letter", 1)]
abbrev own1 : List (Str × Nat) := [("_law_it", 2)]
abbrev own2 : List (Str × Nat) := [("_law_n", 3)]
abbrev own3 : List (Str × Nat) := [("_law_n", 9)]
abbrev own4 : List (Str × Nat) := [("_law_it", 8)]
section
variable {P : Program} {w : World} {K : PySem.W.Frag} {mg : Str → Option Value} {base : Heap} {dk : Option (Addr × Addr)} {cl : Nat → Addr} {nm : Nat → List Str} {fa : Nat → Addr}
abbrev s_is_word : Stmt := top 2
abbrev N_is_word : List Str := ["thing", "letter"]
theorem sc_is_word : FnScope N_is_word ["thing"] (defScope s_is_word) := ⟨rfl, rfl, rfl, by decide +kernel, rfl, by decide +kernel, by decide +kernel⟩
def g_is_word : St3 := (sret (vand (misi "str" (evarB 0)) (mC dAll (acons (mlc (istr (evar 0)) (gn 1) tyes (m2 dInS (evarB 1) (cst (.str (Str.ofString "abcdefghijklmnopqrstuvwxyz")))) [1]) anil))))
def m_is_word : Fun3 := defM 2 g_is_word
theorem ok_is_word {f : Addr} {fd : FuncData} (F : Fun K "is_word" "is_word" s_is_word f fd) (T : Txt K mg fa) : FnG P w K mg base 1 f fd ["thing"] (Sp3 ⟨K, dk, cl, nm⟩ 1 m_is_word) := by
  refine fn3 (N := N_is_word) (ps := ["thing"]) (g := g_is_word) F sc_is_word fun cdv A outer s H hr hgd => ?_
  have nd : (N_is_word).Nodup := sc_is_word.nd
  have hu := hu_of hr
  have hu2 := hr.units
  obtain ⟨z_LETTERS, e_LETTERS⟩ := T.t_LETTERS
  exact (s3_one (s3_ret (e3_vand (e3_isi "str" rfl T.b_isinstance rfl T.b_str rfl (by decide) (e3_varB 0)) (e3_one (e3_callB (cr_all rfl) (lift_all rfl) rfl T.b_all rfl (e3ab_cons (pe_b (e3_lcV (own := own0) (g := (gn 1)) (t := tyes) rfl nd (i3_str (e3_var 0)) (blkOk_by (N := N_is_word) (sc := defScope s_is_word) (by decide +kernel)) (fun _ _ _ _ _ => (g3_name 1 nd)) (fun _ _ _ _ _ => t3s_nil) (fun _ _ _ _ _ => (e3_cmp op_in_str lift_inS (e3_varB 1) (pe_b (e3_gstr rfl e_LETTERS)))))) e3ab_nil))))))
abbrev s_common_prefix : Stmt := top 3
abbrev N_common_prefix : List Str := ["words", "found", "word", "size"]
theorem sc_common_prefix : FnScope N_common_prefix ["words"] (defScope s_common_prefix) := ⟨rfl, rfl, rfl, by decide +kernel, rfl, by decide +kernel, by decide +kernel⟩
def g_common_prefix : St3 := (sseq (sasg (m2 dIx (evarB 0) (cst (.int 0))) (gn 1))
    (sseq (sfor (itup (msl (evarB 0) (osome (cst (.int 1))) onone)) (gn 2) (sseq (sasg (cst (.int 0)) (gn 3))
    (sseq (swhile (tand (tst (m2 (dCmp fun i j => decide (i < j)) (evarB 3) (mC dLen (acons (evarB 1) anil)))) (tand (tst (m2 (dCmp fun i j => decide (i < j)) (evarB 3) (mC dLen (acons (evarB 2) anil)))) (tst (m2 dEqA (m2 dIx (evarB 1) (evarB 3)) (m2 dIx (evarB 2) (evarB 3)))))) (saug 3 dAddI (cst (.int 1))) (SL + 1))
    (sasg (msl (evarB 1) onone (osome (evar 3))) (gn 1)))))
    (sret (evar 1))))
def m_common_prefix : Fun3 := defM 4 g_common_prefix
theorem bs_common_prefix : BindStar "common_prefix" "common_prefix" s_common_prefix "words" := fun kV doc pm cdv ct an rest => by cases rest <;> rfl
theorem ok_common_prefix {f : Addr} {fd : FuncData} (F : Fun K "common_prefix" "common_prefix" s_common_prefix f fd) (T : Txt K mg fa) (hb : BindStar "common_prefix" "common_prefix" s_common_prefix "words") (n : Nat) (hn : n ≤ SL) : PosG P w K mg base 1 f (Sp3 ⟨K, dk, cl, nm⟩ n (starM m_common_prefix)) := by
  refine fnStar3 (N := N_common_prefix) (g := g_common_prefix) (k := 0) (pv := "words") F sc_common_prefix hb (fun cdv A outer s H E hr => ?_) n hn
  have nd : (N_common_prefix).Nodup := sc_common_prefix.nd
  have hu := hu_of hr
  have hu2 := hr.units
  exact (s3_cons (s3_set 1 nd (e3_ix ix_seq (lift_ix rfl) (e3_varB 0) (pe_b e3_int)))
      (s3_cons (s3_for PassesOwn.never rfl (i3_tup (e3_sl (e3_varB 0) (e3o_some e3_int) e3o_none)) (g3_name 2 nd) (s3_cons (s3_set 3 nd e3_int)
      (s3_cons (s3_while (SL + 1) PassesOwn.never (PW.pt (e3_and (e3_tcmp op_lt lift_cmp (e3_varB 3) (pe_b (e3_callB call_len (lift_len rfl) rfl T.b_len rfl (e3ab_cons (e3_varB 1) e3ab_nil)))) (e3_and (e3_tcmp op_lt lift_cmp (e3_varB 3) (pe_b (e3_callB call_len (lift_len rfl) rfl T.b_len rfl (e3ab_cons (e3_varB 2) e3ab_nil)))) (e3_and1 (e3_tcmp (op_eqA hu2) (lift_eqA rfl) (pe_b (e3_ix ix_seq (lift_ix rfl) (e3_varB 1) (e3_varB 3))) (pe_b (e3_ix ix_seq (lift_ix rfl) (e3_varB 2) (e3_varB 3)))))))) (s3_one (s3_aug 3 nd e3_int iop_add lift_add0)))
      (s3_one (s3_set 1 nd (e3_sl (e3_varB 1) e3o_none (e3o_some (e3_var 3))))))))
      (s3_one (s3_ret (e3_var 1)))))
abbrev s_l_deck : Stmt := top 6
abbrev N_l_deck : List Str := ["_law_script", "_law_cells", "_law_blend", "_law_cell"]
theorem sc_l_deck : FnScope N_l_deck ["_law_script"] (defScope s_l_deck) := ⟨rfl, rfl, rfl, by decide +kernel, rfl, by decide +kernel, by decide +kernel⟩
def g_l_deck : St3 := (sseq (sfor (iseq (evar 1)) (gn 3) (sasg (m2 dMod (mC dInt (acons (m2 dAdd (m2 dAdd (m2 dMul (evarB 2) (cst (.int 48271))) (m2 dMod (mC dInt (acons (evarB 3) anil)) (cst (.int 2147483629)))) (cst (.int 59))) anil)) (cst (.int 2147483587))) (gn 2)))
    (sret (mdisp [(Str.ofString "cells", (mrevL (evarB 1))), (Str.ofString "blend", (evar 2)), (Str.ofString "draws", (cst (.int 0)))])))
def m_l_deck : Fun3 := defM 4 g_l_deck
theorem body_l_deck (T : Txt K mg fa) {qual : Str} {f : Addr} {cdv : Value} {A : Around} {outer : List Env} {s : Shared} {H : Hp} (hr : Room 0 (A.deeper (envOfC qual (defScope s_l_deck) s.heap.objs.size f cdv))) (hgd : A.guards = some []) : PSs (cxOf CX0 P w K mg base N_l_deck qual (defScope s_l_deck) f cdv A outer s H E0).nox ((defBody s_l_deck).drop 1) (TS3 ⟨K, dk, cl, nm⟩ g_l_deck) := by
  have nd : (N_l_deck).Nodup := sc_l_deck.nd
  have hu := hu_of hr
  have hu2 := hr.units
  exact (s3_cons (s3_for PassesOwn.never rfl (i3_lst (e3_var 1)) (g3_name 3 nd) (s3_one (s3_set 2 nd (e3_op op_mod lift_mod (pe_b (e3_callTy call_int1 lift_int1 rfl T.b_int rfl (e3ab_cons (pe_b (e3_op op_addD (lift_add rfl) (pe_b (e3_op op_addD (lift_add rfl) (pe_b (e3_op op_mulD lift_mul (e3_varB 2) (pe_b e3_int))) (pe_b (e3_op op_mod lift_mod (pe_b (e3_callTy call_int1 lift_int1 rfl T.b_int rfl (e3ab_cons (e3_varB 3) e3ab_nil))) (pe_b e3_int))))) (pe_b e3_int))) e3ab_nil))) (pe_b e3_int)))))
      (s3_one (s3_ret (e3_disp (ps := [(Str.ofString "cells", (mrevL (evarB 1))), (Str.ofString "blend", (evar 2)), (Str.ofString "draws", (cst (.int 0)))]) (pps_cons pe_str (e3_revL (e3_varB 1)) (pps_cons pe_str (e3_var 2) (pps_cons pe_str e3_int pps_nil)))))))
abbrev s_l_draw : Stmt := top 7
abbrev N_l_draw : List Str := ["_law_deck_here", "_law_below", "_law_turn", "_law_cell", "_law_mixed"]
theorem sc_l_draw : FnScope N_l_draw ["_law_deck_here", "_law_below"] (defScope s_l_draw) := ⟨rfl, rfl, rfl, by decide +kernel, rfl, by decide +kernel, by decide +kernel⟩
def g_l_draw : St3 := (sseq (sDraws 0 (m2 dAdd (dkInt 0 (·.draws)) (cst (.int 1))))
    (sseq (spar 2 3 (acons (dkInt 0 (·.draws)) (acons (dkInt 0 (·.blend)) anil)))
    (sseq (sif (tCells 0) (sseq (sPop 0 3)
    (sseq (sif (tst (m2 (dCmp fun i j => decide (j ≤ i)) (evarB 3) (m2 dPow (cst (.int 10)) (cst (.int 18))))) (sseq (sPush 0 (m2 dDiv (evarB 3) (evarB 1)))
    (sret (m2 dMod (mC dInt (acons (evarB 3) anil)) (evarB 1)))) snil)
    (sasg (m2 dAdd (evarB 3) (dkInt 0 (·.blend))) (gn 3)))) snil)
    (sseq (sasg (m2 dMod (m2 dMul (mC dInt (acons (m2 dAdd (m2 dAdd (m2 dMod (mC dInt (acons (evarB 3) anil)) (cst (.int 2147483629))) (m2 dMul (m2 dMul (cst (.int 60289)) (evarB 2)) (evarB 2))) (cst (.int 13))) anil)) (cst (.int 40692))) (cst (.int 2147483647))) (gn 4))
    (sseq (sasg (m2 dMod (mC dInt (acons (m2 dAdd (m2 dAdd (m2 dMul (evarB 4) (evarB 4)) (m2 dMul (cst (.int 69621)) (evarB 2))) (cst (.int 59))) anil)) (cst (.int 2147483587))) (gn 4))
    (sret (m2 dMod (m2 dDiv (m2 dMod (mC dInt (acons (m2 dMul (evarB 4) (cst (.int 39373))) anil)) (cst (.int 2147483563))) (cst (.int 64))) (evarB 1))))))))
def m_l_draw : Fun3 := defM 5 g_l_draw
theorem ok_l_draw {f : Addr} {fd : FuncData} (F : Fun K "_law_draw" "_law_draw" s_l_draw f fd) (T : Txt K mg fa) : FnG P w K mg base 1 f fd ["_law_deck_here", "_law_below"] (Sp3 ⟨K, dk, cl, nm⟩ 2 m_l_draw) := by
  refine fn3 (N := N_l_draw) (ps := ["_law_deck_here", "_law_below"]) (g := g_l_draw) F sc_l_draw fun cdv A outer s H hr hgd => ?_
  have nd : (N_l_draw).Nodup := sc_l_draw.nd
  have hu := hu_of hr
  have hu2 := hr.units
  exact (s3_cons (s3_draws hu (pv 0) (e3_op op_addD (lift_add rfl) (pe_b (e3_draws hu (pv 0))) (pe_b e3_int)))
      (s3_cons (s3_par 2 3 rfl nd (e3a_cons (e3_draws hu (pv 0)) (e3a_cons (e3_blend hu (pv 0)) e3a_nil)))
      (s3_cons (s3_if (e3_cells hu hu2 (pv 0)) (s3_cons (s3_pop nd hu (pv 0))
      (s3_cons (s3_if (e3_tcmp op_ge lift_cmp (e3_varB 3) (pe_b (e3_op op_pow lift_pow (pe_b e3_int) (pe_b e3_int)))) (s3_cons (s3_push hu (pv 0) (e3_op op_fdiv lift_div (e3_varB 3) (e3_varB 1)))
      (s3_one (s3_ret (e3_op op_mod lift_mod (pe_b (e3_callTy call_int1 lift_int1 rfl T.b_int rfl (e3ab_cons (e3_varB 3) e3ab_nil))) (e3_varB 1))))) s3_nil)
      (s3_one (s3_set 3 nd (e3_op op_addD (lift_add rfl) (e3_varB 3) (pe_b (e3_blend hu (pv 0)))))))) s3_nil)
      (s3_cons (s3_set 4 nd (e3_op op_mod lift_mod (pe_b (e3_op op_mulD lift_mul (pe_b (e3_callTy call_int1 lift_int1 rfl T.b_int rfl (e3ab_cons (pe_b (e3_op op_addD (lift_add rfl) (pe_b (e3_op op_addD (lift_add rfl) (pe_b (e3_op op_mod lift_mod (pe_b (e3_callTy call_int1 lift_int1 rfl T.b_int rfl (e3ab_cons (e3_varB 3) e3ab_nil))) (pe_b e3_int))) (pe_b (e3_op op_mulD lift_mul (pe_b (e3_op op_mulD lift_mul (pe_b e3_int) (e3_varB 2))) (e3_varB 2))))) (pe_b e3_int))) e3ab_nil))) (pe_b e3_int))) (pe_b e3_int)))
      (s3_cons (s3_set 4 nd (e3_op op_mod lift_mod (pe_b (e3_callTy call_int1 lift_int1 rfl T.b_int rfl (e3ab_cons (pe_b (e3_op op_addD (lift_add rfl) (pe_b (e3_op op_addD (lift_add rfl) (pe_b (e3_op op_mulD lift_mul (e3_varB 4) (e3_varB 4))) (pe_b (e3_op op_mulD lift_mul (pe_b e3_int) (e3_varB 2))))) (pe_b e3_int))) e3ab_nil))) (pe_b e3_int)))
      (s3_one (s3_ret (e3_op op_mod lift_mod (pe_b (e3_op op_fdiv lift_div (pe_b (e3_op op_mod lift_mod (pe_b (e3_callTy call_int1 lift_int1 rfl T.b_int rfl (e3ab_cons (pe_b (e3_op op_mulD lift_mul (e3_varB 4) (pe_b e3_int))) e3ab_nil))) (pe_b e3_int))) (pe_b e3_int))) (e3_varB 1)))))))))
abbrev s_l_alike : Stmt := top 9
abbrev N_l_alike : List Str := ["_law_some", "_law_size", "_law_it"]
theorem sc_l_alike : FnScope N_l_alike ["_law_some"] (defScope s_l_alike) := ⟨rfl, rfl, rfl, by decide +kernel, rfl, by decide +kernel, by decide +kernel⟩
def g_l_alike : St3 := (sseq (sasg (cst (.int 0)) (gn 1))
    (sseq (swhile (tand (tst (m2 (dCmp fun i j => decide (i < j)) (evarB 1) (mC dMin (acons (mlc (iseq (evar 0)) (gn 2) tyes (mC dLen (acons (evarB 2) anil)) [2]) anil)))) (tst (m2 dEqA (mlenSet (mlc (iseq (evar 0)) (gn 2) tyes (msl (evarB 2) onone (osome (m2 dAdd (evarB 1) (cst (.int 1))))) [2])) (cst (.int 1))))) (sasg (m2 dAdd (evarB 1) (cst (.int 1))) (gn 1)) (SL + 1))
    (sret (msl (m2 dIx (evarB 0) (cst (.int 0))) onone (osome (evar 1))))))
def m_l_alike : Fun3 := defM 3 g_l_alike
theorem ok_l_alike {f : Addr} {fd : FuncData} (F : Fun K "_law_alike" "_law_alike" s_l_alike f fd) (T : Txt K mg fa) : FnG P w K mg base 1 f fd ["_law_some"] (Sp3 ⟨K, dk, cl, nm⟩ 1 m_l_alike) := by
  refine fn3 (N := N_l_alike) (ps := ["_law_some"]) (g := g_l_alike) F sc_l_alike fun cdv A outer s H hr hgd => ?_
  have nd : (N_l_alike).Nodup := sc_l_alike.nd
  have hu := hu_of hr
  have hu2 := hr.units
  exact (s3_cons (s3_set 1 nd e3_int)
      (s3_cons (s3_while (SL + 1) PassesOwn.never (PW.pt (e3_and (e3_tcmp op_lt lift_cmp (e3_varB 1) (pe_b (e3_callB (cr_min rfl) (lift_min rfl) rfl T.b_min rfl (e3ab_cons (pe_b (e3_lcV (own := own1) (g := (gn 2)) (t := tyes) rfl nd (i3_lst (e3_var 0)) (blkOk_by (N := N_l_alike) (sc := defScope s_l_alike) (by decide +kernel)) (fun _ _ _ _ _ => (g3_name 2 nd)) (fun _ _ _ _ _ => t3s_nil) (fun _ _ _ _ _ => (e3_callB call_len (lift_len rfl) rfl T.b_len rfl (e3ab_cons (e3_varB 2) e3ab_nil))))) e3ab_nil)))) (e3_and1 (e3_tcmp (op_eqA hu2) (lift_eqA rfl) (pe_b (e3_lenSet rfl rfl T.b_len rfl T.b_set (pe_b (e3_lcV (own := own1) (g := (gn 2)) (t := tyes) rfl nd (i3_lst (e3_var 0)) (blkOk_by (N := N_l_alike) (sc := defScope s_l_alike) (by decide +kernel)) (fun _ _ _ _ _ => (g3_name 2 nd)) (fun _ _ _ _ _ => t3s_nil) (fun _ _ _ _ _ => (e3_sl (e3_varB 2) e3o_none (e3o_some (e3_op op_addD (lift_add rfl) (e3_varB 1) (pe_b e3_int))))))))) (pe_b e3_int))))) (s3_one (s3_set 1 nd (e3_op op_addD (lift_add rfl) (e3_varB 1) (pe_b e3_int)))))
      (s3_one (s3_ret (e3_sl (pe_b (e3_ix ix_seq (lift_ix rfl) (e3_varB 0) (pe_b e3_int))) e3o_none (e3o_some (e3_var 1)))))))
abbrev s_delay : Stmt := top 4
abbrev N_delay : List Str := ["one", "other", "size"]
theorem sc_delay : FnScope N_delay ["one", "other"] (defScope s_delay) := ⟨rfl, rfl, rfl, by decide +kernel, rfl, by decide +kernel, by decide +kernel⟩
def g_delay : St3 := (sseq (sasg (mC dLen (acons (callM (starM m_common_prefix) 2 (acons (evar 0) (acons (evar 1) anil))) anil)) (gn 2))
    (sret (mtup (acons (msl (evarB 0) (osome (evar 2)) onone) (acons (msl (evarB 1) (osome (evar 2)) onone) anil)))))
def m_delay : Fun3 := defM 3 g_delay
theorem ok_delay {f : Addr} {fd : FuncData} (F : Fun K "delay" "delay" s_delay f fd) (T : Txt K mg fa) (G_common_prefix : ∀ n : Nat, n ≤ SL → PosG P w K mg base 1 (fa 1) (Sp3 ⟨K, dk, cl, nm⟩ n (starM m_common_prefix))) : FnG P w K mg base 2 f fd ["one", "other"] (Sp3 ⟨K, dk, cl, nm⟩ 2 m_delay) := by
  refine fn3 (N := N_delay) (ps := ["one", "other"]) (g := g_delay) F sc_delay fun cdv A outer s H hr hgd => ?_
  have nd : (N_delay).Nodup := sc_delay.nd
  have hu := hu_of hr
  have hu2 := hr.units
  exact (s3_cons (s3_set 2 nd (e3_callB call_len (lift_len rfl) rfl T.b_len rfl (e3ab_cons (pe_b (e3_call (G_common_prefix 2 (by decide)) (hr.mono (by decide)) hgd rfl T.c_common_prefix T.k_common_prefix (e3a_cons (e3_var 0) (e3a_cons (e3_var 1) e3a_nil)))) e3ab_nil)))
      (s3_one (s3_ret (e3_tup (e3a_cons (e3_sl (e3_varB 0) (e3o_some (e3_var 2)) e3o_none) (e3a_cons (e3_sl (e3_varB 1) (e3o_some (e3_var 2)) e3o_none) e3a_nil))))))
abbrev s_l_pick : Stmt := top 8
abbrev N_l_pick : List Str := ["_law_deck_here", "_law_some"]
theorem sc_l_pick : FnScope N_l_pick ["_law_deck_here", "_law_some"] (defScope s_l_pick) := ⟨rfl, rfl, rfl, by decide +kernel, rfl, by decide +kernel, by decide +kernel⟩
def g_l_pick : St3 := (sret (m2 dIx (evarB 1) (callM m_l_draw 2 (acons (evar 0) (acons (mC dLen (acons (evarB 1) anil)) anil)))))
def m_l_pick : Fun3 := defM 2 g_l_pick
theorem ok_l_pick {f : Addr} {fd : FuncData} (F : Fun K "_law_pick" "_law_pick" s_l_pick f fd) (T : Txt K mg fa) (G_l_draw : PosG P w K mg base 1 (fa 4) (Sp3 ⟨K, dk, cl, nm⟩ 2 m_l_draw)) : FnG P w K mg base 2 f fd ["_law_deck_here", "_law_some"] (Sp3 ⟨K, dk, cl, nm⟩ 2 m_l_pick) := by
  refine fn3 (N := N_l_pick) (ps := ["_law_deck_here", "_law_some"]) (g := g_l_pick) F sc_l_pick fun cdv A outer s H hr hgd => ?_
  have nd : (N_l_pick).Nodup := sc_l_pick.nd
  have hu := hu_of hr
  have hu2 := hr.units
  exact (s3_one (s3_ret (e3_ix ix_seq (lift_ix rfl) (e3_varB 1) (pe_b (e3_call G_l_draw (hr.mono (by decide)) hgd rfl T.c_l_draw T.k_l_draw (e3a_cons (e3_var 0) (e3a_cons (e3_callB call_len (lift_len rfl) rfl T.b_len rfl (e3ab_cons (e3_varB 1) e3ab_nil)) e3a_nil)))))))
abbrev s_l_five : Stmt := top 10
abbrev N_l_five : List Str := ["_law_some"]
theorem sc_l_five : FnScope N_l_five ["_law_some"] (defScope s_l_five) := ⟨rfl, rfl, rfl, by decide +kernel, rfl, by decide +kernel, by decide +kernel⟩
def g_l_five : St3 := (sseq (sif (tst (m2 dEqA (mC dLen (acons (evarB 0) anil)) (cst (.int 1)))) (sret (callM (starM m_common_prefix) 1 (acons (m2 dIx (evarB 0) (cst (.int 0))) anil))) snil)
    (sseq (sif (tst (m2 dEqA (mC dLen (acons (evarB 0) anil)) (cst (.int 2)))) (sret (callM (starM m_common_prefix) 2 (acons (m2 dIx (evarB 0) (cst (.int 0))) (acons (m2 dIx (evarB 0) (cst (.int 1))) anil)))) snil)
    (sseq (sif (tst (m2 dEqA (mC dLen (acons (evarB 0) anil)) (cst (.int 3)))) (sret (callM (starM m_common_prefix) 3 (acons (m2 dIx (evarB 0) (cst (.int 0))) (acons (m2 dIx (evarB 0) (cst (.int 1))) (acons (m2 dIx (evarB 0) (cst (.int 2))) anil))))) snil)
    (sseq (sif (tst (m2 dEqA (mC dLen (acons (evarB 0) anil)) (cst (.int 4)))) (sret (callM (starM m_common_prefix) 4 (acons (m2 dIx (evarB 0) (cst (.int 0))) (acons (m2 dIx (evarB 0) (cst (.int 1))) (acons (m2 dIx (evarB 0) (cst (.int 2))) (acons (m2 dIx (evarB 0) (cst (.int 3))) anil)))))) snil)
    (sret (callM (starM m_common_prefix) 5 (acons (m2 dIx (evarB 0) (cst (.int 0))) (acons (m2 dIx (evarB 0) (cst (.int 1))) (acons (m2 dIx (evarB 0) (cst (.int 2))) (acons (m2 dIx (evarB 0) (cst (.int 3))) (acons (m2 dIx (evarB 0) (cst (.int 4))) anil)))))))))))
def m_l_five : Fun3 := defM 1 g_l_five
theorem ok_l_five {f : Addr} {fd : FuncData} (F : Fun K "_law_five" "_law_five" s_l_five f fd) (T : Txt K mg fa) (G_common_prefix : ∀ n : Nat, n ≤ SL → PosG P w K mg base 1 (fa 1) (Sp3 ⟨K, dk, cl, nm⟩ n (starM m_common_prefix))) : FnG P w K mg base 2 f fd ["_law_some"] (Sp3 ⟨K, dk, cl, nm⟩ 1 m_l_five) := by
  refine fn3 (N := N_l_five) (ps := ["_law_some"]) (g := g_l_five) F sc_l_five fun cdv A outer s H hr hgd => ?_
  have nd : (N_l_five).Nodup := sc_l_five.nd
  have hu := hu_of hr
  have hu2 := hr.units
  exact (s3_cons (s3_if (e3_tcmp (op_eqA hu2) (lift_eqA rfl) (pe_b (e3_callB call_len (lift_len rfl) rfl T.b_len rfl (e3ab_cons (e3_varB 0) e3ab_nil))) (pe_b e3_int)) (s3_one (s3_ret (e3_call (G_common_prefix 1 (by decide)) (hr.mono (by decide)) hgd rfl T.c_common_prefix T.k_common_prefix (e3a_cons (e3_ix ix_seq (lift_ix rfl) (e3_varB 0) (pe_b e3_int)) e3a_nil)))) s3_nil)
      (s3_cons (s3_if (e3_tcmp (op_eqA hu2) (lift_eqA rfl) (pe_b (e3_callB call_len (lift_len rfl) rfl T.b_len rfl (e3ab_cons (e3_varB 0) e3ab_nil))) (pe_b e3_int)) (s3_one (s3_ret (e3_call (G_common_prefix 2 (by decide)) (hr.mono (by decide)) hgd rfl T.c_common_prefix T.k_common_prefix (e3a_cons (e3_ix ix_seq (lift_ix rfl) (e3_varB 0) (pe_b e3_int)) (e3a_cons (e3_ix ix_seq (lift_ix rfl) (e3_varB 0) (pe_b e3_int)) e3a_nil))))) s3_nil)
      (s3_cons (s3_if (e3_tcmp (op_eqA hu2) (lift_eqA rfl) (pe_b (e3_callB call_len (lift_len rfl) rfl T.b_len rfl (e3ab_cons (e3_varB 0) e3ab_nil))) (pe_b e3_int)) (s3_one (s3_ret (e3_call (G_common_prefix 3 (by decide)) (hr.mono (by decide)) hgd rfl T.c_common_prefix T.k_common_prefix (e3a_cons (e3_ix ix_seq (lift_ix rfl) (e3_varB 0) (pe_b e3_int)) (e3a_cons (e3_ix ix_seq (lift_ix rfl) (e3_varB 0) (pe_b e3_int)) (e3a_cons (e3_ix ix_seq (lift_ix rfl) (e3_varB 0) (pe_b e3_int)) e3a_nil)))))) s3_nil)
      (s3_cons (s3_if (e3_tcmp (op_eqA hu2) (lift_eqA rfl) (pe_b (e3_callB call_len (lift_len rfl) rfl T.b_len rfl (e3ab_cons (e3_varB 0) e3ab_nil))) (pe_b e3_int)) (s3_one (s3_ret (e3_call (G_common_prefix 4 (by decide)) (hr.mono (by decide)) hgd rfl T.c_common_prefix T.k_common_prefix (e3a_cons (e3_ix ix_seq (lift_ix rfl) (e3_varB 0) (pe_b e3_int)) (e3a_cons (e3_ix ix_seq (lift_ix rfl) (e3_varB 0) (pe_b e3_int)) (e3a_cons (e3_ix ix_seq (lift_ix rfl) (e3_varB 0) (pe_b e3_int)) (e3a_cons (e3_ix ix_seq (lift_ix rfl) (e3_varB 0) (pe_b e3_int)) e3a_nil))))))) s3_nil)
      (s3_one (s3_ret (e3_call (G_common_prefix 5 (by decide)) (hr.mono (by decide)) hgd rfl T.c_common_prefix T.k_common_prefix (e3a_cons (e3_ix ix_seq (lift_ix rfl) (e3_varB 0) (pe_b e3_int)) (e3a_cons (e3_ix ix_seq (lift_ix rfl) (e3_varB 0) (pe_b e3_int)) (e3a_cons (e3_ix ix_seq (lift_ix rfl) (e3_varB 0) (pe_b e3_int)) (e3a_cons (e3_ix ix_seq (lift_ix rfl) (e3_varB 0) (pe_b e3_int)) (e3a_cons (e3_ix ix_seq (lift_ix rfl) (e3_varB 0) (pe_b e3_int)) e3a_nil))))))))))))
abbrev s_l_drawn : Stmt := top 11
abbrev N_l_drawn : List Str := ["_law_deck_here", "_law_head", "_law_signs", "_law_n"]
theorem sc_l_drawn : FnScope N_l_drawn ["_law_deck_here", "_law_head"] (defScope s_l_drawn) := ⟨rfl, rfl, rfl, by decide +kernel, rfl, by decide +kernel, by decide +kernel⟩
def g_l_drawn : St3 := (sseq (sasg (callM m_l_pick 2 (acons (evar 0) (acons (mlst (acons (cst (.str (Str.ofString "a"))) (acons (cst (.str (Str.ofString "ab"))) (acons (cst (.str (Str.ofString "abz"))) (acons (cst (.str (Str.ofString "xy"))) anil))))) anil))) (gn 2))
    (sret (m2 dAdd (msl (evarB 1) onone (osome (callM m_l_draw 2 (acons (evar 0) (acons (m2 dAdd (mC dLen (acons (evarB 1) anil)) (cst (.int 1))) anil))))) (mM dJoin (cst (.str (Str.ofString ""))) (acons (mlc (irng1 (acons (callM m_l_draw 2 (acons (evar 0) (acons (cst (.int 7)) anil))) anil)) (gn 3) tyes (callM m_l_pick 2 (acons (evar 0) (acons (evar 2) anil))) [3]) anil)))))
def m_l_drawn : Fun3 := defM 4 g_l_drawn
theorem ok_l_drawn {f : Addr} {fd : FuncData} (F : Fun K "_law_drawn" "_law_drawn" s_l_drawn f fd) (T : Txt K mg fa) (G_l_draw : PosG P w K mg base 1 (fa 4) (Sp3 ⟨K, dk, cl, nm⟩ 2 m_l_draw)) (G_l_pick : PosG P w K mg base 2 (fa 5) (Sp3 ⟨K, dk, cl, nm⟩ 2 m_l_pick)) : FnG P w K mg base 3 f fd ["_law_deck_here", "_law_head"] (Sp3 ⟨K, dk, cl, nm⟩ 2 m_l_drawn) := by
  refine fn3 (N := N_l_drawn) (ps := ["_law_deck_here", "_law_head"]) (g := g_l_drawn) F sc_l_drawn fun cdv A outer s H hr hgd => ?_
  have nd : (N_l_drawn).Nodup := sc_l_drawn.nd
  have hu := hu_of hr
  have hu2 := hr.units
  exact (s3_cons (s3_set 2 nd (e3_call G_l_pick (hr.mono (by decide)) hgd rfl T.c_l_pick T.k_l_pick (e3a_cons (e3_var 0) (e3a_cons (e3_lst (e3a_cons e3_str (e3a_cons e3_str (e3a_cons e3_str (e3a_cons e3_str e3a_nil))))) e3a_nil))))
      (s3_one (s3_ret (e3_op op_addD (lift_add rfl) (pe_b (e3_sl (e3_varB 1) e3o_none (e3o_some (e3_call G_l_draw (hr.mono (by decide)) hgd rfl T.c_l_draw T.k_l_draw (e3a_cons (e3_var 0) (e3a_cons (e3_op op_addD (lift_add rfl) (pe_b (e3_callB call_len (lift_len rfl) rfl T.b_len rfl (e3ab_cons (e3_varB 1) e3ab_nil))) (pe_b e3_int)) e3a_nil)))))) (pe_b (e3_bm PySem.F.plainAttrs_str PySem.F.slot_str_join PySem.F.type_str_join mt_join (lift_join rfl) (pe_b e3_str) (e3ab_cons (pe_b (e3_lcV (own := own2) (g := (gn 3)) (t := tyes) rfl nd (i3_rng1 rfl T.b_range (e3a_cons (e3_call G_l_draw (hr.mono (by decide)) hgd rfl T.c_l_draw T.k_l_draw (e3a_cons (e3_var 0) (e3a_cons e3_int e3a_nil))) e3a_nil)) (blkOk_by (N := N_l_drawn) (sc := defScope s_l_drawn) (by decide +kernel)) (fun _ _ _ _ _ => (g3_name 3 nd)) (fun _ _ _ _ _ => t3s_nil) (fun _ _ _ _ _ => (e3_call G_l_pick (hr.mono (by decide)) hgd rfl T.c_l_pick T.k_l_pick (e3a_cons (e3_var 0) (e3a_cons (e3_var 2) e3a_nil)))))) e3ab_nil)))))))
abbrev s_l_right : Stmt := top 12
abbrev N_l_right : List Str := ["_law_deck_here", "_law_head", "_law_some", "_law_due", "_law_near", "_law_far", "_law_size", "_law_left", "_law_told", "_law_n"]
theorem sc_l_right : FnScope N_l_right ["_law_deck_here"] (defScope s_l_right) := ⟨rfl, rfl, rfl, by decide +kernel, rfl, by decide +kernel, by decide +kernel⟩
def g_l_right : St3 := (sseq (sasg (callM m_l_drawn 2 (acons (evar 0) (acons (msl (cst (.str (Str.ofString "abxyzabxyzab"))) onone (osome (callM m_l_draw 2 (acons (evar 0) (acons (cst (.int 7)) anil))))) anil))) (gn 1))
    (sseq (sasg (mlc (irng1 (acons (m2 dAdd (cst (.int 1)) (callM m_l_draw 2 (acons (evar 0) (acons (cst (.int 5)) anil)))) anil)) (gn 9) tyes (callM m_l_drawn 2 (acons (evar 0) (acons (evar 1) anil))) [9]) (gn 2))
    (sseq (sasg (callM m_l_alike 1 (acons (evar 2) anil)) (gn 3))
    (sseq (sif (tst (m2 dNeA (mC dRepr (acons (mlst (acons (callM m_l_five 1 (acons (evar 2) anil)) (acons (callM m_l_five 1 (acons (mrevL (evarB 2)) anil)) (acons (callM m_l_five 1 (acons (evar 2) anil)) anil)))) anil)) (mC dRepr (acons (m2 dMul (mlst (acons (evar 3) anil)) (cst (.int 3))) anil)))) (sret (cst (.bl false))) snil)
    (sseq (spar 4 5 (acons (m2 dIx (evarB 2) (cst (.int 0))) (acons (m2 dIx (evarB 2) (mneg (cst (.int 1)))) anil)))
    (sseq (sasg (mC dLen (acons (callM m_l_alike 1 (acons (mlst (acons (evar 4) (acons (evar 5) anil))) anil)) anil)) (gn 6))
    (sseq (sasg (mtup (acons (msl (evarB 4) (osome (evar 6)) onone) (acons (msl (evarB 5) (osome (evar 6)) onone) anil))) (gn 7))
    (sseq (sasg (mlst (acons (callM m_delay 2 (acons (evar 4) (acons (evar 5) anil))) (acons (kwM m_delay 2 kw_delay_10 (acons (evar 5) (acons (evar 4) anil))) (acons (callM m_delay 2 (acons (evar 5) (acons (evar 4) anil))) anil)))) (gn 8))
    (sret (m2 dEqA (mC dRepr (acons (evarB 8) anil)) (mC dRepr (acons (mlst (acons (evar 7) (acons (evar 7) (acons (mtup (acons (m2 dIx (evarB 7) (cst (.int 1))) (acons (m2 dIx (evarB 7) (cst (.int 0))) anil))) anil)))) anil))))))))))))
def m_l_right : Fun3 := defM 10 g_l_right
theorem ok_l_right {f : Addr} {fd : FuncData} (F : Fun K "_law_right" "_law_right" s_l_right f fd) (T : Txt K mg fa) (G_l_alike : PosG P w K mg base 1 (fa 6) (Sp3 ⟨K, dk, cl, nm⟩ 1 m_l_alike)) (G_l_draw : PosG P w K mg base 1 (fa 4) (Sp3 ⟨K, dk, cl, nm⟩ 2 m_l_draw)) (G_l_drawn : PosG P w K mg base 3 (fa 8) (Sp3 ⟨K, dk, cl, nm⟩ 2 m_l_drawn)) (G_l_five : PosG P w K mg base 2 (fa 7) (Sp3 ⟨K, dk, cl, nm⟩ 1 m_l_five)) (G_delay : PosG P w K mg base 2 (fa 2) (Sp3 ⟨K, dk, cl, nm⟩ 2 m_delay)) (W_delay_10 : KwG P w K mg base 2 (fa 2) ["other", "one"] @kw_delay_10 (Sp3 ⟨K, dk, cl, nm⟩ 2 m_delay)) : FnG P w K mg base 4 f fd ["_law_deck_here"] (Sp3 ⟨K, dk, cl, nm⟩ 1 m_l_right) := by
  refine fn3 (N := N_l_right) (ps := ["_law_deck_here"]) (g := g_l_right) F sc_l_right fun cdv A outer s H hr hgd => ?_
  have nd : (N_l_right).Nodup := sc_l_right.nd
  have hu := hu_of hr
  have hu2 := hr.units
  exact (s3_cons (s3_set 1 nd (e3_call G_l_drawn (hr.mono (by decide)) hgd rfl T.c_l_drawn T.k_l_drawn (e3a_cons (e3_var 0) (e3a_cons (e3_sl (pe_b e3_str) e3o_none (e3o_some (e3_call G_l_draw (hr.mono (by decide)) hgd rfl T.c_l_draw T.k_l_draw (e3a_cons (e3_var 0) (e3a_cons e3_int e3a_nil))))) e3a_nil))))
      (s3_cons (s3_setLc (i := 2) (own := own3) (g := (gn 9)) (t := tyes) rfl nd (i3_rng1 rfl T.b_range (e3a_cons (e3_op op_addD (lift_add rfl) (pe_b e3_int) (pe_b (e3_call G_l_draw (hr.mono (by decide)) hgd rfl T.c_l_draw T.k_l_draw (e3a_cons (e3_var 0) (e3a_cons e3_int e3a_nil))))) e3a_nil)) (blkOk_by (N := N_l_right) (sc := defScope s_l_right) (by decide +kernel)) (fun _ _ _ _ _ => (g3_name 9 nd)) (fun _ _ _ _ _ => t3s_nil) (fun _ _ _ _ _ => (e3_call G_l_drawn (hr.mono (by decide)) hgd rfl T.c_l_drawn T.k_l_drawn (e3a_cons (e3_var 0) (e3a_cons (e3_var 1) e3a_nil)))))
      (s3_cons (s3_set 3 nd (e3_call G_l_alike (hr.mono (by decide)) hgd rfl T.c_l_alike T.k_l_alike (e3a_cons (e3_var 2) e3a_nil)))
      (s3_cons (s3_if (e3_tcmp (op_neA hu2) (lift_neA rfl) (pe_b (e3_callB (call_reprD hgd hu2) (lift_repr rfl) rfl T.b_repr rfl (e3ab_cons (pe_b (e3_lst (e3a_cons (e3_call G_l_five (hr.mono (by decide)) hgd rfl T.c_l_five T.k_l_five (e3a_cons (e3_var 2) e3a_nil)) (e3a_cons (e3_call G_l_five (hr.mono (by decide)) hgd rfl T.c_l_five T.k_l_five (e3a_cons (e3_revL (e3_varB 2)) e3a_nil)) (e3a_cons (e3_call G_l_five (hr.mono (by decide)) hgd rfl T.c_l_five T.k_l_five (e3a_cons (e3_var 2) e3a_nil)) e3a_nil))))) e3ab_nil))) (pe_b (e3_callB (call_reprD hgd hu2) (lift_repr rfl) rfl T.b_repr rfl (e3ab_cons (pe_b (e3_op op_mulD lift_mul (pe_b (e3_lst (e3a_cons (e3_var 3) e3a_nil))) (pe_b e3_int))) e3ab_nil)))) (s3_one (s3_ret e3_bl)) s3_nil)
      (s3_cons (s3_par 4 5 rfl nd (e3a_cons (e3_ix ix_seq (lift_ix rfl) (e3_varB 2) (pe_b e3_int)) (e3a_cons (e3_ix ix_seq (lift_ix rfl) (e3_varB 2) (pe_b (e3_neg (pe_b e3_int)))) e3a_nil)))
      (s3_cons (s3_set 6 nd (e3_callB call_len (lift_len rfl) rfl T.b_len rfl (e3ab_cons (pe_b (e3_call G_l_alike (hr.mono (by decide)) hgd rfl T.c_l_alike T.k_l_alike (e3a_cons (e3_lst (e3a_cons (e3_var 4) (e3a_cons (e3_var 5) e3a_nil))) e3a_nil))) e3ab_nil)))
      (s3_cons (s3_set 7 nd (e3_tup (e3a_cons (e3_sl (e3_varB 4) (e3o_some (e3_var 6)) e3o_none) (e3a_cons (e3_sl (e3_varB 5) (e3o_some (e3_var 6)) e3o_none) e3a_nil))))
      (s3_cons (s3_set 8 nd (e3_lst (e3a_cons (e3_call G_delay (hr.mono (by decide)) hgd rfl T.c_delay T.k_delay (e3a_cons (e3_var 4) (e3a_cons (e3_var 5) e3a_nil))) (e3a_cons (e3_callK W_delay_10 (hr.mono (by decide)) hgd rfl T.c_delay T.k_delay (e3k_cons (e3_var 5) (e3k_cons (e3_var 4) e3k_nil)) kw_delay_10_rel kw_delay_10_len) (e3a_cons (e3_call G_delay (hr.mono (by decide)) hgd rfl T.c_delay T.k_delay (e3a_cons (e3_var 5) (e3a_cons (e3_var 4) e3a_nil))) e3a_nil)))))
      (s3_one (s3_ret (e3_cmp (op_eqA hu2) (lift_eqA rfl) (pe_b (e3_callB (call_reprD hgd hu2) (lift_repr rfl) rfl T.b_repr rfl (e3ab_cons (e3_varB 8) e3ab_nil))) (pe_b (e3_callB (call_reprD hgd hu2) (lift_repr rfl) rfl T.b_repr rfl (e3ab_cons (pe_b (e3_lst (e3a_cons (e3_var 7) (e3a_cons (e3_var 7) (e3a_cons (e3_tup (e3a_cons (e3_ix ix_seq (lift_ix rfl) (e3_varB 7) (pe_b e3_int)) (e3a_cons (e3_ix ix_seq (lift_ix rfl) (e3_varB 7) (pe_b e3_int)) e3a_nil))) e3a_nil))))) e3ab_nil))))))))))))))
abbrev s_law : Stmt := top 13
abbrev N_law : List Str := ["_law_script", "_law_deck_here", "_law_go", "_law_words_now", "_law_others", "_law_spoilt", "_law_at", "_law_told", "_law_it"]
theorem sc_law : FnScope N_law ["_law_script"] (defScope s_law) := ⟨rfl, rfl, rfl, by decide +kernel, rfl, by decide +kernel, by decide +kernel⟩
def g_law : St3 := (sseq (sfor (irng1 (acons (cst (.int 20)) anil)) (gn 2) (sif (tnot (tst (callM m_l_right 1 (acons (evar 1) anil)))) (sret (cst (.bl false))) snil))
    (sseq (sasg (mlst (acons (cst (.str (Str.ofString ""))) (acons (cst (.str (Str.ofString "a"))) (acons (cst (.str (Str.ofString "z"))) (acons (m2 dMul (cst (.str (Str.ofString "abz"))) (cst (.int 30))) (acons (callM m_l_drawn 2 (acons (evar 1) (acons (cst (.str (Str.ofString "abc"))) anil))) anil)))))) (gn 3))
    (sseq (son 4 (mlst (acons (cst .non) (acons (cst (.bl true)) (acons (cst (.int 0)) (acons (m2 dPow (cst (.int 10)) (cst (.int 39))) (acons (mtup anil) (acons (mtup (acons (cst (.str (Str.ofString "a"))) anil)) (acons (mlst (acons (cst (.str (Str.ofString "a"))) anil)) (acons (cst (.dic [])) (acons (cst (.str (Str.ofString "A"))) (acons (cst (.str (Str.ofString "a b"))) (acons (cst (.str (Str.ofString " "))) (acons (cst (.str (Str.ofString "a\n"))) (acons (cst (.str (Str.ofString "-"))) (acons (cst (.str (Str.ofString "a1"))) (acons (cst (.str (Str.ofString "_"))) (acons (cst (.str (Str.ofString "~"))) (acons (cst (.str (Str.ofString "aZ"))) anil)))))))))))))))))))
    (sseq (sasg (callM m_l_drawn 2 (acons (evar 1) (acons (cst (.str (Str.ofString "abc"))) anil))) (gn 5))
    (sseq (sasg (callM m_l_draw 2 (acons (evar 1) (acons (m2 dAdd (mC dLen (acons (evarB 5) anil)) (cst (.int 1))) anil))) (gn 6))
    (sseq (sapp 4 (m2 dAdd (m2 dAdd (msl (evarB 5) onone (osome (evar 6))) (callM m_l_pick 2 (acons (evar 1) (acons (mC dListS (acons (cst (.str (Str.ofString " -A1\n~"))) anil)) anil)))) (msl (evarB 5) (osome (evar 6)) onone)))
    (sseq (sasg (mlc (iseq (m2 dAdd (evarB 3) (evarB 4))) (gn 8) tyes (mlst (acons (callM m_is_word 1 (acons (evar 8) anil)) (acons (kwM m_is_word 1 kw_is_word_0 (acons (evar 8) anil)) anil))) [8]) (gn 7))
    (sret (m2 dEqA (mC dRepr (acons (evarB 7) anil)) (mC dRepr (acons (m2 dAdd (m2 dMul (mlst (acons (mlst (acons (cst (.bl true)) (acons (cst (.bl true)) anil))) anil)) (cst (.int 5))) (m2 dMul (mlst (acons (mlst (acons (cst (.bl false)) (acons (cst (.bl false)) anil))) anil)) (mC dLen (acons (evarB 4) anil)))) anil)))))))))))
def m_law : Fun3 := defM 9 g_law
theorem body_law (T : Txt K mg fa) (G_l_draw : PosG P w K mg base 1 (fa 4) (Sp3 ⟨K, dk, cl, nm⟩ 2 m_l_draw)) (G_l_drawn : PosG P w K mg base 3 (fa 8) (Sp3 ⟨K, dk, cl, nm⟩ 2 m_l_drawn)) (G_l_pick : PosG P w K mg base 2 (fa 5) (Sp3 ⟨K, dk, cl, nm⟩ 2 m_l_pick)) (G_l_right : PosG P w K mg base 4 (fa 9) (Sp3 ⟨K, dk, cl, nm⟩ 1 m_l_right)) (G_is_word : PosG P w K mg base 1 (fa 0) (Sp3 ⟨K, dk, cl, nm⟩ 1 m_is_word)) (W_is_word_0 : KwG P w K mg base 1 (fa 0) ["thing"] @kw_is_word_0 (Sp3 ⟨K, dk, cl, nm⟩ 1 m_is_word)) {qual : Str} {f : Addr} {cdv : Value} {A : Around} {outer : List Env} {s : Shared} {H : Hp} (hr : Room 4 (A.deeper (envOfC qual (defScope s_law) s.heap.objs.size f cdv))) (hgd : A.guards = some []) : PSs (cxOf CX0 P w K mg base N_law qual (defScope s_law) f cdv A outer s H E0).nox ((defBody s_law).drop 1) (TS3 ⟨K, dk, cl, nm⟩ g_law) := by
  have nd : (N_law).Nodup := sc_law.nd
  have hu := hu_of hr
  have hu2 := hr.units
  exact (s3_cons (s3_for PassesOwn.never rfl (i3_rng1 rfl T.b_range (e3a_cons e3_int e3a_nil)) (g3_name 2 nd) (s3_one (s3_if (e3_not (e3_tst (e3_call G_l_right (hr.mono (by decide)) hgd rfl T.c_l_right T.k_l_right (e3a_cons (e3_var 1) e3a_nil)))) (s3_one (s3_ret e3_bl)) s3_nil)))
      (s3_cons (s3_set 3 nd (e3_lst (e3a_cons e3_str (e3a_cons e3_str (e3a_cons e3_str (e3a_cons (e3_op op_mulD lift_mul (pe_b e3_str) (pe_b e3_int)) (e3a_cons (e3_call G_l_drawn (hr.mono (by decide)) hgd rfl T.c_l_drawn T.k_l_drawn (e3a_cons (e3_var 1) (e3a_cons e3_str e3a_nil))) e3a_nil)))))))
      (s3_cons (s3_new 4 nd (e3n_lst (e3a_cons e3_non (e3a_cons e3_bl (e3a_cons e3_int (e3a_cons (e3_op op_pow lift_pow (pe_b e3_int) (pe_b e3_int)) (e3a_cons (e3_tup e3a_nil) (e3a_cons (e3_tup (e3a_cons e3_str e3a_nil)) (e3a_cons (e3_lst (e3a_cons e3_str e3a_nil)) (e3a_cons e3_dict0 (e3a_cons e3_str (e3a_cons e3_str (e3a_cons e3_str (e3a_cons e3_str (e3a_cons e3_str (e3a_cons e3_str (e3a_cons e3_str (e3a_cons e3_str (e3a_cons e3_str e3a_nil)))))))))))))))))))
      (s3_cons (s3_set 5 nd (e3_call G_l_drawn (hr.mono (by decide)) hgd rfl T.c_l_drawn T.k_l_drawn (e3a_cons (e3_var 1) (e3a_cons e3_str e3a_nil))))
      (s3_cons (s3_set 6 nd (e3_call G_l_draw (hr.mono (by decide)) hgd rfl T.c_l_draw T.k_l_draw (e3a_cons (e3_var 1) (e3a_cons (e3_op op_addD (lift_add rfl) (pe_b (e3_callB call_len (lift_len rfl) rfl T.b_len rfl (e3ab_cons (e3_varB 5) e3ab_nil))) (pe_b e3_int)) e3a_nil))))
      (s3_cons (s3_append 4 (e3_op op_addD (lift_add rfl) (pe_b (e3_op op_addD (lift_add rfl) (pe_b (e3_sl (e3_varB 5) e3o_none (e3o_some (e3_var 6)))) (pe_b (e3_call G_l_pick (hr.mono (by decide)) hgd rfl T.c_l_pick T.k_l_pick (e3a_cons (e3_var 1) (e3a_cons (e3_callTy (call_listS rfl) lift_listS rfl T.b_list rfl (e3ab_cons (pe_b e3_str) e3ab_nil)) e3a_nil)))))) (pe_b (e3_sl (e3_varB 5) (e3o_some (e3_var 6)) e3o_none))))
      (s3_cons (s3_setLc (i := 7) (own := own4) (g := (gn 8)) (t := tyes) rfl nd (i3_lst (e3_op op_addD (lift_add rfl) (e3_varB 3) (e3_varB 4))) (blkOk_by (N := N_law) (sc := defScope s_law) (by decide +kernel)) (fun _ _ _ _ _ => (g3_name 8 nd)) (fun _ _ _ _ _ => t3s_nil) (fun _ _ _ _ _ => (e3_lst (e3a_cons (e3_call G_is_word (hr.mono (by decide)) hgd rfl T.c_is_word T.k_is_word (e3a_cons (e3_var 8) e3a_nil)) (e3a_cons (e3_callK W_is_word_0 (hr.mono (by decide)) hgd rfl T.c_is_word T.k_is_word (e3k_cons (e3_var 8) e3k_nil) kw_is_word_0_rel kw_is_word_0_len) e3a_nil)))))
      (s3_one (s3_ret (e3_cmp (op_eqA hu2) (lift_eqA rfl) (pe_b (e3_callB (call_reprD hgd hu2) (lift_repr rfl) rfl T.b_repr rfl (e3ab_cons (e3_varB 7) e3ab_nil))) (pe_b (e3_callB (call_reprD hgd hu2) (lift_repr rfl) rfl T.b_repr rfl (e3ab_cons (pe_b (e3_op op_addD (lift_add rfl) (pe_b (e3_op op_mulD lift_mul (pe_b (e3_lst (e3a_cons (e3_lst (e3a_cons e3_bl (e3a_cons e3_bl e3a_nil))) e3a_nil))) (pe_b e3_int))) (pe_b (e3_op op_mulD lift_mul (pe_b (e3_lst (e3a_cons (e3_lst (e3a_cons e3_bl (e3a_cons e3_bl e3a_nil))) e3a_nil))) (pe_b (e3_callB call_len (lift_len rfl) rfl T.b_len rfl (e3ab_cons (e3_varB 4) e3ab_nil))))))) e3ab_nil)))))))))))))
end
end K02

set_option Elab.async false
set_option linter.all false
set_option maxRecDepth 100000
set_option maxHeartbeats 4000000
/-! K02L: the law of k02 in plain Lean. -/
namespace K02
open PySem PySem.Spec PyProof.Rows L2 L3 Pre
theorem deck_plain (ns : List Int) (w0 : Wd) (h : ns.length ≤ 63) : ∃ w : Wd, w.new ∧ g_l_deck [none, some (false, .lst (ns.map D.int)), some (false, .int 10858021), none] w0 = .ret (deckD w) w0 := deck_made (by decide) (by decide) ns w0 h
theorem draw {b : Int} {n : Nat} {w : Wd} {P : D → Wd → Prop} (hb : 0 < b) (hb2 : b < 1073741824) (g : Good (n + 1) w) (hP : ∀ (k : Int) (w' : Wd), 0 ≤ k → k < b → Good n w' → P (.int k) w') : Ok (m_l_draw [.deck, .int b] w) P := draw_ok (c1 := 60289) (c2 := 13) (c3 := 59) (by decide) (by decide) hb hb2 g hP
theorem pickL {ds : List D} {n : Nat} {w : Wd} {P : D → Wd → Prop} (hb : 0 < ds.length) (hb2 : ds.length < 1073741824) (g : Good (n + 1) w) (hP : ∀ (d : D) (w' : Wd), d ∈ ds → Good n w' → P d w') : Ok (m_l_pick [.deck, .lst ds] w) P := pick_lst (c1 := 60289) (c2 := 13) (c3 := 59) (by decide) (by decide) hb hb2 g hP
theorem pickS {l : List Nat} {n : Nat} {w : Wd} {P : D → Wd → Prop} (hb : 0 < l.length) (hb2 : l.length ≤ SL) (g : Good (n + 1) w) (hP : ∀ (c : Nat) (w' : Wd), c ∈ l → Good n w' → P (tx [c]) w') : Ok (m_l_pick [.deck, tx l] w) P :=
  pick_str (c1 := 60289) (c2 := 13) (c3 := 59) (z := mkT l) (by decide) (by decide) (by rw [mkT_len]; exact hb) (by rw [mkT_len]; exact hb2) g hP

/-! ### common_prefix -/
theorem prefix_loop {a z : List Nat} {o : Option (Bool × D)} {w : Wd} {C B : Env3 → Wd → Prop} {R : D → Wd → Prop} (ha : a.length ≤ 1000) (hz : z.length ≤ 1000) :
    Sx ((swhile (tand (tst (m2 (dCmp fun i j => decide (i < j)) (evarB 3) (mC dLen (acons (evarB 1) anil)))) (tand (tst (m2 (dCmp fun i j => decide (i < j)) (evarB 3) (mC dLen (acons (evarB 2) anil)))) (tst (m2 dEqA (m2 dIx (evarB 1) (evarB 3)) (m2 dIx (evarB 2) (evarB 3)))))) (saug 3 dAddI (cst (.int 1))) (SL + 1))
      [o, some (false, tx a), some (false, tx z), some (false, .int 0)] w) (fun e w' => w' = w ∧ e = [o, some (false, tx a), some (false, tx z), some (false, .int (cpl a z))]) C B R := by
  refine while_inv (fun k e w' => w' = w ∧ ∃ i : Nat, k = cpl a z - i ∧ i ≤ cpl a z ∧ e = [o, some (false, tx a), some (false, tx z), some (false, .int i)]) ?_ (SL + 1) (cpl a z) _ _ ?_ ⟨rfl, 0, rfl, Nat.zero_le _, rfl⟩
  · rintro k e w' ⟨rfl, i, hk, hi, rfl⟩
    have e0 := (cpl_iff a z (cpl a z)).mp (Nat.le_refl _)
    have e1 := cpl_iff a z (i + 1)
    have e2 := ((cpl_iff a z i).mp hi).2.2
    have l1 := e0.1
    have l2 := e0.2.1
    have fin : ¬ i + 1 ≤ cpl a z → w' = w' ∧ [o, some (false, tx a), some (false, tx z), some (false, D.int (i : Int))] = [o, some (false, tx a), some (false, tx z), some (false, .int (cpl a z))] := fun h => ⟨rfl, by
      have : i = cpl a z := by omega
      rw [this]⟩
    repeat (first | (with_reducible first | refine wp_sseq.mpr ?_ | refine wp_set.mpr ?_ | refine wp_sret.mpr ?_ | refine wp_sif.mpr ?_ | refine wp_snil.mpr ?_ | refine wp_sdrop.mpr ?_ | refine wp_sfor.mpr ?_ | refine wp_spar.mpr ?_ | refine wp_saug.mpr ?_ | refine wp_son.mpr ?_ | refine wp_sapp.mpr ?_ | refine wp_sDraws.mpr ?_ | refine wp_sPop.mpr ?_ | refine wp_sPush.mpr ?_ | refine wp_m2.mpr ?_ | refine wp_evarB.mpr ?_ | refine wp_evar.mpr ?_ | refine wp_cst.mpr ?_ | refine wp_mC.mpr ?_ | refine wp_acons.mpr ?_ | refine wp_anil.mpr ?_ | refine wp_callM.mpr ?_ | refine wp_kwM.mpr ?_ | refine wp_mtup.mpr ?_ | refine wp_mlst.mpr ?_ | refine wp_msl.mpr ?_ | refine wp_onone.mpr ?_ | refine wp_osome.mpr ?_ | refine wp_tst.mpr ?_ | refine wp_tru.mpr ?_ | refine wp_tnot.mpr ?_ | refine wp_tand.mpr ?_ | refine wp_tor.mpr ?_ | refine wp_vand.mpr ?_ | refine wp_vor.mpr ?_ | refine wp_vnot.mpr ?_ | refine wp_vif.mpr ?_ | refine wp_tyes.mpr ?_ | refine wp_mM.mpr ?_ | refine wp_mneg.mpr ?_ | refine wp_mrevL.mpr ?_ | refine wp_mlenSet.mpr ?_ | refine wp_misi.mpr ?_ | refine wp_dkInt.mpr ?_ | refine wp_tCells.mpr ?_ | refine wp_iseq.mpr ?_ | refine wp_itup.mpr ?_ | refine wp_istr.mpr ?_ | refine wp_irng1.mpr ?_ | refine wp_defM.mpr ?_ | refine wp_starM.mpr ?_ | refine wp_mdisp.mpr ?_ | refine wp_sasg.mpr ?_) | (first | refine ⟨_, rfl, ?_⟩ | refine ⟨_, _, rfl, ?_⟩ | refine ⟨rfl, ?_⟩ | refine ⟨by (exact Nat.le_of_ble_eq_true rfl), ?_⟩ | refine ⟨_, by (first | rfl | exact dMod_ok (by (((try dsimp only); omega))) | exact dDiv_ok (by (((try dsimp only); omega))) (by (((try dsimp only); omega))) | exact dMul_r (by (((try dsimp only); omega))) (by (((try dsimp only); omega))) | exact dMul_l (by (((try dsimp only); omega))) (by (((try dsimp only); omega))) | assumption), ?_⟩ | refine ⟨_, _, rfl, by (exact Nat.le_of_ble_eq_true rfl), by (exact Nat.le_of_ble_eq_true rfl), ?_⟩))
    refine ⟨_, dLen_tx (Nat.le_trans ha (by decide)), ?_⟩
    repeat (first | (with_reducible first | refine wp_sseq.mpr ?_ | refine wp_set.mpr ?_ | refine wp_sret.mpr ?_ | refine wp_sif.mpr ?_ | refine wp_snil.mpr ?_ | refine wp_sdrop.mpr ?_ | refine wp_sfor.mpr ?_ | refine wp_spar.mpr ?_ | refine wp_saug.mpr ?_ | refine wp_son.mpr ?_ | refine wp_sapp.mpr ?_ | refine wp_sDraws.mpr ?_ | refine wp_sPop.mpr ?_ | refine wp_sPush.mpr ?_ | refine wp_m2.mpr ?_ | refine wp_evarB.mpr ?_ | refine wp_evar.mpr ?_ | refine wp_cst.mpr ?_ | refine wp_mC.mpr ?_ | refine wp_acons.mpr ?_ | refine wp_anil.mpr ?_ | refine wp_callM.mpr ?_ | refine wp_kwM.mpr ?_ | refine wp_mtup.mpr ?_ | refine wp_mlst.mpr ?_ | refine wp_msl.mpr ?_ | refine wp_onone.mpr ?_ | refine wp_osome.mpr ?_ | refine wp_tst.mpr ?_ | refine wp_tru.mpr ?_ | refine wp_tnot.mpr ?_ | refine wp_tand.mpr ?_ | refine wp_tor.mpr ?_ | refine wp_vand.mpr ?_ | refine wp_vor.mpr ?_ | refine wp_vnot.mpr ?_ | refine wp_vif.mpr ?_ | refine wp_tyes.mpr ?_ | refine wp_mM.mpr ?_ | refine wp_mneg.mpr ?_ | refine wp_mrevL.mpr ?_ | refine wp_mlenSet.mpr ?_ | refine wp_misi.mpr ?_ | refine wp_dkInt.mpr ?_ | refine wp_tCells.mpr ?_ | refine wp_iseq.mpr ?_ | refine wp_itup.mpr ?_ | refine wp_istr.mpr ?_ | refine wp_irng1.mpr ?_ | refine wp_defM.mpr ?_ | refine wp_starM.mpr ?_ | refine wp_mdisp.mpr ?_ | refine wp_sasg.mpr ?_) | (first | refine ⟨_, rfl, ?_⟩ | refine ⟨_, _, rfl, ?_⟩ | refine ⟨rfl, ?_⟩ | refine ⟨by (exact Nat.le_of_ble_eq_true rfl), ?_⟩ | refine ⟨_, by (first | rfl | exact dMod_ok (by (((try dsimp only); omega))) | exact dDiv_ok (by (((try dsimp only); omega))) (by (((try dsimp only); omega))) | exact dMul_r (by (((try dsimp only); omega))) (by (((try dsimp only); omega))) | exact dMul_l (by (((try dsimp only); omega))) (by (((try dsimp only); omega))) | assumption), ?_⟩ | refine ⟨_, _, rfl, by (exact Nat.le_of_ble_eq_true rfl), by (exact Nat.le_of_ble_eq_true rfl), ?_⟩))
    refine ⟨fun h1 => ?_, fun h1 => ⟨fun h => absurd h (by decide), fun _ => fin fun hc => ?_⟩⟩
    · have h1 := of_decide_eq_true h1
      repeat (first | (with_reducible first | refine wp_sseq.mpr ?_ | refine wp_set.mpr ?_ | refine wp_sret.mpr ?_ | refine wp_sif.mpr ?_ | refine wp_snil.mpr ?_ | refine wp_sdrop.mpr ?_ | refine wp_sfor.mpr ?_ | refine wp_spar.mpr ?_ | refine wp_saug.mpr ?_ | refine wp_son.mpr ?_ | refine wp_sapp.mpr ?_ | refine wp_sDraws.mpr ?_ | refine wp_sPop.mpr ?_ | refine wp_sPush.mpr ?_ | refine wp_m2.mpr ?_ | refine wp_evarB.mpr ?_ | refine wp_evar.mpr ?_ | refine wp_cst.mpr ?_ | refine wp_mC.mpr ?_ | refine wp_acons.mpr ?_ | refine wp_anil.mpr ?_ | refine wp_callM.mpr ?_ | refine wp_kwM.mpr ?_ | refine wp_mtup.mpr ?_ | refine wp_mlst.mpr ?_ | refine wp_msl.mpr ?_ | refine wp_onone.mpr ?_ | refine wp_osome.mpr ?_ | refine wp_tst.mpr ?_ | refine wp_tru.mpr ?_ | refine wp_tnot.mpr ?_ | refine wp_tand.mpr ?_ | refine wp_tor.mpr ?_ | refine wp_vand.mpr ?_ | refine wp_vor.mpr ?_ | refine wp_vnot.mpr ?_ | refine wp_vif.mpr ?_ | refine wp_tyes.mpr ?_ | refine wp_mM.mpr ?_ | refine wp_mneg.mpr ?_ | refine wp_mrevL.mpr ?_ | refine wp_mlenSet.mpr ?_ | refine wp_misi.mpr ?_ | refine wp_dkInt.mpr ?_ | refine wp_tCells.mpr ?_ | refine wp_iseq.mpr ?_ | refine wp_itup.mpr ?_ | refine wp_istr.mpr ?_ | refine wp_irng1.mpr ?_ | refine wp_defM.mpr ?_ | refine wp_starM.mpr ?_ | refine wp_mdisp.mpr ?_ | refine wp_sasg.mpr ?_) | (first | refine ⟨_, rfl, ?_⟩ | refine ⟨_, _, rfl, ?_⟩ | refine ⟨rfl, ?_⟩ | refine ⟨by (exact Nat.le_of_ble_eq_true rfl), ?_⟩ | refine ⟨_, by (first | rfl | exact dMod_ok (by (((try dsimp only); omega))) | exact dDiv_ok (by (((try dsimp only); omega))) (by (((try dsimp only); omega))) | exact dMul_r (by (((try dsimp only); omega))) (by (((try dsimp only); omega))) | exact dMul_l (by (((try dsimp only); omega))) (by (((try dsimp only); omega))) | assumption), ?_⟩ | refine ⟨_, _, rfl, by (exact Nat.le_of_ble_eq_true rfl), by (exact Nat.le_of_ble_eq_true rfl), ?_⟩))
      refine ⟨_, dLen_tx (Nat.le_trans hz (by decide)), ?_⟩
      repeat (first | (with_reducible first | refine wp_sseq.mpr ?_ | refine wp_set.mpr ?_ | refine wp_sret.mpr ?_ | refine wp_sif.mpr ?_ | refine wp_snil.mpr ?_ | refine wp_sdrop.mpr ?_ | refine wp_sfor.mpr ?_ | refine wp_spar.mpr ?_ | refine wp_saug.mpr ?_ | refine wp_son.mpr ?_ | refine wp_sapp.mpr ?_ | refine wp_sDraws.mpr ?_ | refine wp_sPop.mpr ?_ | refine wp_sPush.mpr ?_ | refine wp_m2.mpr ?_ | refine wp_evarB.mpr ?_ | refine wp_evar.mpr ?_ | refine wp_cst.mpr ?_ | refine wp_mC.mpr ?_ | refine wp_acons.mpr ?_ | refine wp_anil.mpr ?_ | refine wp_callM.mpr ?_ | refine wp_kwM.mpr ?_ | refine wp_mtup.mpr ?_ | refine wp_mlst.mpr ?_ | refine wp_msl.mpr ?_ | refine wp_onone.mpr ?_ | refine wp_osome.mpr ?_ | refine wp_tst.mpr ?_ | refine wp_tru.mpr ?_ | refine wp_tnot.mpr ?_ | refine wp_tand.mpr ?_ | refine wp_tor.mpr ?_ | refine wp_vand.mpr ?_ | refine wp_vor.mpr ?_ | refine wp_vnot.mpr ?_ | refine wp_vif.mpr ?_ | refine wp_tyes.mpr ?_ | refine wp_mM.mpr ?_ | refine wp_mneg.mpr ?_ | refine wp_mrevL.mpr ?_ | refine wp_mlenSet.mpr ?_ | refine wp_misi.mpr ?_ | refine wp_dkInt.mpr ?_ | refine wp_tCells.mpr ?_ | refine wp_iseq.mpr ?_ | refine wp_itup.mpr ?_ | refine wp_istr.mpr ?_ | refine wp_irng1.mpr ?_ | refine wp_defM.mpr ?_ | refine wp_starM.mpr ?_ | refine wp_mdisp.mpr ?_ | refine wp_sasg.mpr ?_) | (first | refine ⟨_, rfl, ?_⟩ | refine ⟨_, _, rfl, ?_⟩ | refine ⟨rfl, ?_⟩ | refine ⟨by (exact Nat.le_of_ble_eq_true rfl), ?_⟩ | refine ⟨_, by (first | rfl | exact dMod_ok (by (((try dsimp only); omega))) | exact dDiv_ok (by (((try dsimp only); omega))) (by (((try dsimp only); omega))) | exact dMul_r (by (((try dsimp only); omega))) (by (((try dsimp only); omega))) | exact dMul_l (by (((try dsimp only); omega))) (by (((try dsimp only); omega))) | assumption), ?_⟩ | refine ⟨_, _, rfl, by (exact Nat.le_of_ble_eq_true rfl), by (exact Nat.le_of_ble_eq_true rfl), ?_⟩))
      refine ⟨fun h2 => ?_, fun h2 => ⟨fun h => absurd h (by decide), fun _ => fin fun hc => ?_⟩⟩
      · have h2 := of_decide_eq_true h2
        have i1 : i < a.length := by omega
        have i2 : i < z.length := by omega
        repeat (first | (with_reducible first | refine wp_sseq.mpr ?_ | refine wp_set.mpr ?_ | refine wp_sret.mpr ?_ | refine wp_sif.mpr ?_ | refine wp_snil.mpr ?_ | refine wp_sdrop.mpr ?_ | refine wp_sfor.mpr ?_ | refine wp_spar.mpr ?_ | refine wp_saug.mpr ?_ | refine wp_son.mpr ?_ | refine wp_sapp.mpr ?_ | refine wp_sDraws.mpr ?_ | refine wp_sPop.mpr ?_ | refine wp_sPush.mpr ?_ | refine wp_m2.mpr ?_ | refine wp_evarB.mpr ?_ | refine wp_evar.mpr ?_ | refine wp_cst.mpr ?_ | refine wp_mC.mpr ?_ | refine wp_acons.mpr ?_ | refine wp_anil.mpr ?_ | refine wp_callM.mpr ?_ | refine wp_kwM.mpr ?_ | refine wp_mtup.mpr ?_ | refine wp_mlst.mpr ?_ | refine wp_msl.mpr ?_ | refine wp_onone.mpr ?_ | refine wp_osome.mpr ?_ | refine wp_tst.mpr ?_ | refine wp_tru.mpr ?_ | refine wp_tnot.mpr ?_ | refine wp_tand.mpr ?_ | refine wp_tor.mpr ?_ | refine wp_vand.mpr ?_ | refine wp_vor.mpr ?_ | refine wp_vnot.mpr ?_ | refine wp_vif.mpr ?_ | refine wp_tyes.mpr ?_ | refine wp_mM.mpr ?_ | refine wp_mneg.mpr ?_ | refine wp_mrevL.mpr ?_ | refine wp_mlenSet.mpr ?_ | refine wp_misi.mpr ?_ | refine wp_dkInt.mpr ?_ | refine wp_tCells.mpr ?_ | refine wp_iseq.mpr ?_ | refine wp_itup.mpr ?_ | refine wp_istr.mpr ?_ | refine wp_irng1.mpr ?_ | refine wp_defM.mpr ?_ | refine wp_starM.mpr ?_ | refine wp_mdisp.mpr ?_ | refine wp_sasg.mpr ?_) | (first | refine ⟨_, rfl, ?_⟩ | refine ⟨_, _, rfl, ?_⟩ | refine ⟨rfl, ?_⟩ | refine ⟨by (exact Nat.le_of_ble_eq_true rfl), ?_⟩ | refine ⟨_, by (first | rfl | exact dMod_ok (by (((try dsimp only); omega))) | exact dDiv_ok (by (((try dsimp only); omega))) (by (((try dsimp only); omega))) | exact dMul_r (by (((try dsimp only); omega))) (by (((try dsimp only); omega))) | exact dMul_l (by (((try dsimp only); omega))) (by (((try dsimp only); omega))) | assumption), ?_⟩ | refine ⟨_, _, rfl, by (exact Nat.le_of_ble_eq_true rfl), by (exact Nat.le_of_ble_eq_true rfl), ?_⟩))
        refine ⟨_, dIx_tx (Nat.le_trans ha (by decide)) i1, ?_⟩
        repeat (first | (with_reducible first | refine wp_sseq.mpr ?_ | refine wp_set.mpr ?_ | refine wp_sret.mpr ?_ | refine wp_sif.mpr ?_ | refine wp_snil.mpr ?_ | refine wp_sdrop.mpr ?_ | refine wp_sfor.mpr ?_ | refine wp_spar.mpr ?_ | refine wp_saug.mpr ?_ | refine wp_son.mpr ?_ | refine wp_sapp.mpr ?_ | refine wp_sDraws.mpr ?_ | refine wp_sPop.mpr ?_ | refine wp_sPush.mpr ?_ | refine wp_m2.mpr ?_ | refine wp_evarB.mpr ?_ | refine wp_evar.mpr ?_ | refine wp_cst.mpr ?_ | refine wp_mC.mpr ?_ | refine wp_acons.mpr ?_ | refine wp_anil.mpr ?_ | refine wp_callM.mpr ?_ | refine wp_kwM.mpr ?_ | refine wp_mtup.mpr ?_ | refine wp_mlst.mpr ?_ | refine wp_msl.mpr ?_ | refine wp_onone.mpr ?_ | refine wp_osome.mpr ?_ | refine wp_tst.mpr ?_ | refine wp_tru.mpr ?_ | refine wp_tnot.mpr ?_ | refine wp_tand.mpr ?_ | refine wp_tor.mpr ?_ | refine wp_vand.mpr ?_ | refine wp_vor.mpr ?_ | refine wp_vnot.mpr ?_ | refine wp_vif.mpr ?_ | refine wp_tyes.mpr ?_ | refine wp_mM.mpr ?_ | refine wp_mneg.mpr ?_ | refine wp_mrevL.mpr ?_ | refine wp_mlenSet.mpr ?_ | refine wp_misi.mpr ?_ | refine wp_dkInt.mpr ?_ | refine wp_tCells.mpr ?_ | refine wp_iseq.mpr ?_ | refine wp_itup.mpr ?_ | refine wp_istr.mpr ?_ | refine wp_irng1.mpr ?_ | refine wp_defM.mpr ?_ | refine wp_starM.mpr ?_ | refine wp_mdisp.mpr ?_ | refine wp_sasg.mpr ?_) | (first | refine ⟨_, rfl, ?_⟩ | refine ⟨_, _, rfl, ?_⟩ | refine ⟨rfl, ?_⟩ | refine ⟨by (exact Nat.le_of_ble_eq_true rfl), ?_⟩ | refine ⟨_, by (first | rfl | exact dMod_ok (by (((try dsimp only); omega))) | exact dDiv_ok (by (((try dsimp only); omega))) (by (((try dsimp only); omega))) | exact dMul_r (by (((try dsimp only); omega))) (by (((try dsimp only); omega))) | exact dMul_l (by (((try dsimp only); omega))) (by (((try dsimp only); omega))) | assumption), ?_⟩ | refine ⟨_, _, rfl, by (exact Nat.le_of_ble_eq_true rfl), by (exact Nat.le_of_ble_eq_true rfl), ?_⟩))
        refine ⟨_, dIx_tx (Nat.le_trans hz (by decide)) i2, ?_⟩
        repeat (first | (with_reducible first | refine wp_sseq.mpr ?_ | refine wp_set.mpr ?_ | refine wp_sret.mpr ?_ | refine wp_sif.mpr ?_ | refine wp_snil.mpr ?_ | refine wp_sdrop.mpr ?_ | refine wp_sfor.mpr ?_ | refine wp_spar.mpr ?_ | refine wp_saug.mpr ?_ | refine wp_son.mpr ?_ | refine wp_sapp.mpr ?_ | refine wp_sDraws.mpr ?_ | refine wp_sPop.mpr ?_ | refine wp_sPush.mpr ?_ | refine wp_m2.mpr ?_ | refine wp_evarB.mpr ?_ | refine wp_evar.mpr ?_ | refine wp_cst.mpr ?_ | refine wp_mC.mpr ?_ | refine wp_acons.mpr ?_ | refine wp_anil.mpr ?_ | refine wp_callM.mpr ?_ | refine wp_kwM.mpr ?_ | refine wp_mtup.mpr ?_ | refine wp_mlst.mpr ?_ | refine wp_msl.mpr ?_ | refine wp_onone.mpr ?_ | refine wp_osome.mpr ?_ | refine wp_tst.mpr ?_ | refine wp_tru.mpr ?_ | refine wp_tnot.mpr ?_ | refine wp_tand.mpr ?_ | refine wp_tor.mpr ?_ | refine wp_vand.mpr ?_ | refine wp_vor.mpr ?_ | refine wp_vnot.mpr ?_ | refine wp_vif.mpr ?_ | refine wp_tyes.mpr ?_ | refine wp_mM.mpr ?_ | refine wp_mneg.mpr ?_ | refine wp_mrevL.mpr ?_ | refine wp_mlenSet.mpr ?_ | refine wp_misi.mpr ?_ | refine wp_dkInt.mpr ?_ | refine wp_tCells.mpr ?_ | refine wp_iseq.mpr ?_ | refine wp_itup.mpr ?_ | refine wp_istr.mpr ?_ | refine wp_irng1.mpr ?_ | refine wp_defM.mpr ?_ | refine wp_starM.mpr ?_ | refine wp_mdisp.mpr ?_ | refine wp_sasg.mpr ?_) | (first | refine ⟨_, rfl, ?_⟩ | refine ⟨_, _, rfl, ?_⟩ | refine ⟨rfl, ?_⟩ | refine ⟨by (exact Nat.le_of_ble_eq_true rfl), ?_⟩ | refine ⟨_, by (first | rfl | exact dMod_ok (by (((try dsimp only); omega))) | exact dDiv_ok (by (((try dsimp only); omega))) (by (((try dsimp only); omega))) | exact dMul_r (by (((try dsimp only); omega))) (by (((try dsimp only); omega))) | exact dMul_l (by (((try dsimp only); omega))) (by (((try dsimp only); omega))) | assumption), ?_⟩ | refine ⟨_, _, rfl, by (exact Nat.le_of_ble_eq_true rfl), by (exact Nat.le_of_ble_eq_true rfl), ?_⟩))
        have t3 : List.take (i + 1) a = List.take (i + 1) z ↔ mkT [a[i]] = mkT [z[i]] := by
          rw [← List.take_append_getElem i1, ← List.take_append_getElem i2, e2, List.append_cancel_left_eq]
          exact ⟨fun h => by rw [h], mkT_inj⟩
        refine ⟨fun h3 => ⟨cpl a z - (i + 1), ?_, ?_⟩, fun h3 => fin fun hc => ?_⟩
        · have h3 := of_decide_eq_true h3
          have := e1.mpr ⟨i1, i2, t3.mpr h3⟩
          omega
        · have h3 := of_decide_eq_true h3
          have h4 := e1.mpr ⟨i1, i2, t3.mpr h3⟩
          repeat (first | (with_reducible first | refine wp_sseq.mpr ?_ | refine wp_set.mpr ?_ | refine wp_sret.mpr ?_ | refine wp_sif.mpr ?_ | refine wp_snil.mpr ?_ | refine wp_sdrop.mpr ?_ | refine wp_sfor.mpr ?_ | refine wp_spar.mpr ?_ | refine wp_saug.mpr ?_ | refine wp_son.mpr ?_ | refine wp_sapp.mpr ?_ | refine wp_sDraws.mpr ?_ | refine wp_sPop.mpr ?_ | refine wp_sPush.mpr ?_ | refine wp_m2.mpr ?_ | refine wp_evarB.mpr ?_ | refine wp_evar.mpr ?_ | refine wp_cst.mpr ?_ | refine wp_mC.mpr ?_ | refine wp_acons.mpr ?_ | refine wp_anil.mpr ?_ | refine wp_callM.mpr ?_ | refine wp_kwM.mpr ?_ | refine wp_mtup.mpr ?_ | refine wp_mlst.mpr ?_ | refine wp_msl.mpr ?_ | refine wp_onone.mpr ?_ | refine wp_osome.mpr ?_ | refine wp_tst.mpr ?_ | refine wp_tru.mpr ?_ | refine wp_tnot.mpr ?_ | refine wp_tand.mpr ?_ | refine wp_tor.mpr ?_ | refine wp_vand.mpr ?_ | refine wp_vor.mpr ?_ | refine wp_vnot.mpr ?_ | refine wp_vif.mpr ?_ | refine wp_tyes.mpr ?_ | refine wp_mM.mpr ?_ | refine wp_mneg.mpr ?_ | refine wp_mrevL.mpr ?_ | refine wp_mlenSet.mpr ?_ | refine wp_misi.mpr ?_ | refine wp_dkInt.mpr ?_ | refine wp_tCells.mpr ?_ | refine wp_iseq.mpr ?_ | refine wp_itup.mpr ?_ | refine wp_istr.mpr ?_ | refine wp_irng1.mpr ?_ | refine wp_defM.mpr ?_ | refine wp_starM.mpr ?_ | refine wp_mdisp.mpr ?_ | refine wp_sasg.mpr ?_) | (first | refine ⟨_, rfl, ?_⟩ | refine ⟨_, _, rfl, ?_⟩ | refine ⟨rfl, ?_⟩ | refine ⟨by (exact Nat.le_of_ble_eq_true rfl), ?_⟩ | refine ⟨_, by (first | rfl | exact dMod_ok (by (((try dsimp only); omega))) | exact dDiv_ok (by (((try dsimp only); omega))) (by (((try dsimp only); omega))) | exact dMul_r (by (((try dsimp only); omega))) (by (((try dsimp only); omega))) | exact dMul_l (by (((try dsimp only); omega))) (by (((try dsimp only); omega))) | assumption), ?_⟩ | refine ⟨_, _, rfl, by (exact Nat.le_of_ble_eq_true rfl), by (exact Nat.le_of_ble_eq_true rfl), ?_⟩))
          exact ⟨h4, rfl⟩
        · have h3 := of_decide_eq_false h3
          exact h3 (t3.mp (e1.mp hc).2.2)
      · have h2 := of_decide_eq_false h2
        have := (e1.mp hc).2.1
        omega
    · have h1 := of_decide_eq_false h1
      have := (e1.mp hc).1
      omega
  · have := (cpl_iff a z (cpl a z)).mp (Nat.le_refl _)
    have h2 := this.1
    show cpl a z < 16777216 + 1
    omega
theorem prefix_ok {y : List Nat} {r : List (List Nat)} {w : Wd} {P : D → Wd → Prop} (hs : ∀ z ∈ y :: r, z.length ≤ 1000) (hP : ∀ m, Com y r m → P (tx (y.take m)) w) : Ok (m_common_prefix [.tup ((y :: r).map tx)] w) P := by
  have hy := hs y List.mem_cons_self
  unfold m_common_prefix g_common_prefix
  repeat (first | (with_reducible first | refine wp_sseq.mpr ?_ | refine wp_set.mpr ?_ | refine wp_sret.mpr ?_ | refine wp_sif.mpr ?_ | refine wp_snil.mpr ?_ | refine wp_sdrop.mpr ?_ | refine wp_sfor.mpr ?_ | refine wp_spar.mpr ?_ | refine wp_saug.mpr ?_ | refine wp_son.mpr ?_ | refine wp_sapp.mpr ?_ | refine wp_sDraws.mpr ?_ | refine wp_sPop.mpr ?_ | refine wp_sPush.mpr ?_ | refine wp_m2.mpr ?_ | refine wp_evarB.mpr ?_ | refine wp_evar.mpr ?_ | refine wp_cst.mpr ?_ | refine wp_mC.mpr ?_ | refine wp_acons.mpr ?_ | refine wp_anil.mpr ?_ | refine wp_callM.mpr ?_ | refine wp_kwM.mpr ?_ | refine wp_mtup.mpr ?_ | refine wp_mlst.mpr ?_ | refine wp_msl.mpr ?_ | refine wp_onone.mpr ?_ | refine wp_osome.mpr ?_ | refine wp_tst.mpr ?_ | refine wp_tru.mpr ?_ | refine wp_tnot.mpr ?_ | refine wp_tand.mpr ?_ | refine wp_tor.mpr ?_ | refine wp_vand.mpr ?_ | refine wp_vor.mpr ?_ | refine wp_vnot.mpr ?_ | refine wp_vif.mpr ?_ | refine wp_tyes.mpr ?_ | refine wp_mM.mpr ?_ | refine wp_mneg.mpr ?_ | refine wp_mrevL.mpr ?_ | refine wp_mlenSet.mpr ?_ | refine wp_misi.mpr ?_ | refine wp_dkInt.mpr ?_ | refine wp_tCells.mpr ?_ | refine wp_iseq.mpr ?_ | refine wp_itup.mpr ?_ | refine wp_istr.mpr ?_ | refine wp_irng1.mpr ?_ | refine wp_defM.mpr ?_ | refine wp_starM.mpr ?_ | refine wp_mdisp.mpr ?_ | refine wp_sasg.mpr ?_) | (first | refine ⟨_, rfl, ?_⟩ | refine ⟨_, _, rfl, ?_⟩ | refine ⟨rfl, ?_⟩ | refine ⟨by (exact Nat.le_of_ble_eq_true rfl), ?_⟩ | refine ⟨_, by (first | rfl | exact dMod_ok (by (((try dsimp only); omega))) | exact dDiv_ok (by (((try dsimp only); omega))) (by (((try dsimp only); omega))) | exact dMul_r (by (((try dsimp only); omega))) (by (((try dsimp only); omega))) | exact dMul_l (by (((try dsimp only); omega))) (by (((try dsimp only); omega))) | assumption), ?_⟩ | refine ⟨_, _, rfl, by (exact Nat.le_of_ble_eq_true rfl), by (exact Nat.le_of_ble_eq_true rfl), ?_⟩))
  refine ⟨tx y, dIx_tup0, ?_⟩
  repeat (first | (with_reducible first | refine wp_sseq.mpr ?_ | refine wp_set.mpr ?_ | refine wp_sret.mpr ?_ | refine wp_sif.mpr ?_ | refine wp_snil.mpr ?_ | refine wp_sdrop.mpr ?_ | refine wp_sfor.mpr ?_ | refine wp_spar.mpr ?_ | refine wp_saug.mpr ?_ | refine wp_son.mpr ?_ | refine wp_sapp.mpr ?_ | refine wp_sDraws.mpr ?_ | refine wp_sPop.mpr ?_ | refine wp_sPush.mpr ?_ | refine wp_m2.mpr ?_ | refine wp_evarB.mpr ?_ | refine wp_evar.mpr ?_ | refine wp_cst.mpr ?_ | refine wp_mC.mpr ?_ | refine wp_acons.mpr ?_ | refine wp_anil.mpr ?_ | refine wp_callM.mpr ?_ | refine wp_kwM.mpr ?_ | refine wp_mtup.mpr ?_ | refine wp_mlst.mpr ?_ | refine wp_msl.mpr ?_ | refine wp_onone.mpr ?_ | refine wp_osome.mpr ?_ | refine wp_tst.mpr ?_ | refine wp_tru.mpr ?_ | refine wp_tnot.mpr ?_ | refine wp_tand.mpr ?_ | refine wp_tor.mpr ?_ | refine wp_vand.mpr ?_ | refine wp_vor.mpr ?_ | refine wp_vnot.mpr ?_ | refine wp_vif.mpr ?_ | refine wp_tyes.mpr ?_ | refine wp_mM.mpr ?_ | refine wp_mneg.mpr ?_ | refine wp_mrevL.mpr ?_ | refine wp_mlenSet.mpr ?_ | refine wp_misi.mpr ?_ | refine wp_dkInt.mpr ?_ | refine wp_tCells.mpr ?_ | refine wp_iseq.mpr ?_ | refine wp_itup.mpr ?_ | refine wp_istr.mpr ?_ | refine wp_irng1.mpr ?_ | refine wp_defM.mpr ?_ | refine wp_starM.mpr ?_ | refine wp_mdisp.mpr ?_ | refine wp_sasg.mpr ?_) | (first | refine ⟨_, rfl, ?_⟩ | refine ⟨_, _, rfl, ?_⟩ | refine ⟨rfl, ?_⟩ | refine ⟨by (exact Nat.le_of_ble_eq_true rfl), ?_⟩ | refine ⟨_, by (first | rfl | exact dMod_ok (by (((try dsimp only); omega))) | exact dDiv_ok (by (((try dsimp only); omega))) (by (((try dsimp only); omega))) | exact dMul_r (by (((try dsimp only); omega))) (by (((try dsimp only); omega))) | exact dMul_l (by (((try dsimp only); omega))) (by (((try dsimp only); omega))) | assumption), ?_⟩ | refine ⟨_, _, rfl, by (exact Nat.le_of_ble_eq_true rfl), by (exact Nat.le_of_ble_eq_true rfl), ?_⟩))
  refine ⟨_, dSl_tup1, ?_⟩
  repeat (first | (with_reducible first | refine wp_sseq.mpr ?_ | refine wp_set.mpr ?_ | refine wp_sret.mpr ?_ | refine wp_sif.mpr ?_ | refine wp_snil.mpr ?_ | refine wp_sdrop.mpr ?_ | refine wp_sfor.mpr ?_ | refine wp_spar.mpr ?_ | refine wp_saug.mpr ?_ | refine wp_son.mpr ?_ | refine wp_sapp.mpr ?_ | refine wp_sDraws.mpr ?_ | refine wp_sPop.mpr ?_ | refine wp_sPush.mpr ?_ | refine wp_m2.mpr ?_ | refine wp_evarB.mpr ?_ | refine wp_evar.mpr ?_ | refine wp_cst.mpr ?_ | refine wp_mC.mpr ?_ | refine wp_acons.mpr ?_ | refine wp_anil.mpr ?_ | refine wp_callM.mpr ?_ | refine wp_kwM.mpr ?_ | refine wp_mtup.mpr ?_ | refine wp_mlst.mpr ?_ | refine wp_msl.mpr ?_ | refine wp_onone.mpr ?_ | refine wp_osome.mpr ?_ | refine wp_tst.mpr ?_ | refine wp_tru.mpr ?_ | refine wp_tnot.mpr ?_ | refine wp_tand.mpr ?_ | refine wp_tor.mpr ?_ | refine wp_vand.mpr ?_ | refine wp_vor.mpr ?_ | refine wp_vnot.mpr ?_ | refine wp_vif.mpr ?_ | refine wp_tyes.mpr ?_ | refine wp_mM.mpr ?_ | refine wp_mneg.mpr ?_ | refine wp_mrevL.mpr ?_ | refine wp_mlenSet.mpr ?_ | refine wp_misi.mpr ?_ | refine wp_dkInt.mpr ?_ | refine wp_tCells.mpr ?_ | refine wp_iseq.mpr ?_ | refine wp_itup.mpr ?_ | refine wp_istr.mpr ?_ | refine wp_irng1.mpr ?_ | refine wp_defM.mpr ?_ | refine wp_starM.mpr ?_ | refine wp_mdisp.mpr ?_ | refine wp_sasg.mpr ?_) | (first | refine ⟨_, rfl, ?_⟩ | refine ⟨_, _, rfl, ?_⟩ | refine ⟨rfl, ?_⟩ | refine ⟨by (exact Nat.le_of_ble_eq_true rfl), ?_⟩ | refine ⟨_, by (first | rfl | exact dMod_ok (by (((try dsimp only); omega))) | exact dDiv_ok (by (((try dsimp only); omega))) (by (((try dsimp only); omega))) | exact dMul_r (by (((try dsimp only); omega))) (by (((try dsimp only); omega))) | exact dMul_l (by (((try dsimp only); omega))) (by (((try dsimp only); omega))) | assumption), ?_⟩ | refine ⟨_, _, rfl, by (exact Nat.le_of_ble_eq_true rfl), by (exact Nat.le_of_ble_eq_true rfl), ?_⟩))
  refine for_inv (fun pre e w' => w' = w ∧ ∃ (ps : List (List Nat)) (m : Nat) (o1 o2 : Option (Bool × D)), pre = ps.map tx ∧ Com y ps m ∧ e = [some (false, .tup ((y :: r).map tx)), some (false, tx (y.take m)), o1, o2]) ⟨rfl, [], y.length, none, none, rfl, com_nil y, by rw [List.take_length]; rfl⟩ ?_ ?_
  · rintro pre post d e w' eq ⟨rfl, ps, m, o1, o2, rfl, hc, rfl⟩
    refine ⟨_, rfl, ?_⟩
    obtain ⟨z, hz, rfl⟩ : ∃ z, z ∈ r ∧ tx z = d := List.mem_map.mp (by rw [eq]; simp)
    have hzl := hs z (List.mem_cons_of_mem _ hz)
    have hml := hc.le
    have ha : (y.take m).length ≤ 1000 := by rw [List.length_take]; omega
    repeat (first | (with_reducible first | refine wp_sseq.mpr ?_ | refine wp_set.mpr ?_ | refine wp_sret.mpr ?_ | refine wp_sif.mpr ?_ | refine wp_snil.mpr ?_ | refine wp_sdrop.mpr ?_ | refine wp_sfor.mpr ?_ | refine wp_spar.mpr ?_ | refine wp_saug.mpr ?_ | refine wp_son.mpr ?_ | refine wp_sapp.mpr ?_ | refine wp_sDraws.mpr ?_ | refine wp_sPop.mpr ?_ | refine wp_sPush.mpr ?_ | refine wp_m2.mpr ?_ | refine wp_evarB.mpr ?_ | refine wp_evar.mpr ?_ | refine wp_cst.mpr ?_ | refine wp_mC.mpr ?_ | refine wp_acons.mpr ?_ | refine wp_anil.mpr ?_ | refine wp_callM.mpr ?_ | refine wp_kwM.mpr ?_ | refine wp_mtup.mpr ?_ | refine wp_mlst.mpr ?_ | refine wp_msl.mpr ?_ | refine wp_onone.mpr ?_ | refine wp_osome.mpr ?_ | refine wp_tst.mpr ?_ | refine wp_tru.mpr ?_ | refine wp_tnot.mpr ?_ | refine wp_tand.mpr ?_ | refine wp_tor.mpr ?_ | refine wp_vand.mpr ?_ | refine wp_vor.mpr ?_ | refine wp_vnot.mpr ?_ | refine wp_vif.mpr ?_ | refine wp_tyes.mpr ?_ | refine wp_mM.mpr ?_ | refine wp_mneg.mpr ?_ | refine wp_mrevL.mpr ?_ | refine wp_mlenSet.mpr ?_ | refine wp_misi.mpr ?_ | refine wp_dkInt.mpr ?_ | refine wp_tCells.mpr ?_ | refine wp_iseq.mpr ?_ | refine wp_itup.mpr ?_ | refine wp_istr.mpr ?_ | refine wp_irng1.mpr ?_ | refine wp_defM.mpr ?_ | refine wp_starM.mpr ?_ | refine wp_mdisp.mpr ?_ | refine wp_sasg.mpr ?_) | (first | refine ⟨_, rfl, ?_⟩ | refine ⟨_, _, rfl, ?_⟩ | refine ⟨rfl, ?_⟩ | refine ⟨by (exact Nat.le_of_ble_eq_true rfl), ?_⟩ | refine ⟨_, by (first | rfl | exact dMod_ok (by (((try dsimp only); omega))) | exact dDiv_ok (by (((try dsimp only); omega))) (by (((try dsimp only); omega))) | exact dMul_r (by (((try dsimp only); omega))) (by (((try dsimp only); omega))) | exact dMul_l (by (((try dsimp only); omega))) (by (((try dsimp only); omega))) | assumption), ?_⟩ | refine ⟨_, _, rfl, by (exact Nat.le_of_ble_eq_true rfl), by (exact Nat.le_of_ble_eq_true rfl), ?_⟩))
    refine Sx.mono (prefix_loop (C := no2) (B := no2) ha hzl) (fun e w'' h => ?_) (fun _ _ h => False.elim h) (fun _ _ h => False.elim h) (fun _ _ h => h)
    obtain ⟨rfl, rfl⟩ := h
    repeat (first | (with_reducible first | refine wp_sseq.mpr ?_ | refine wp_set.mpr ?_ | refine wp_sret.mpr ?_ | refine wp_sif.mpr ?_ | refine wp_snil.mpr ?_ | refine wp_sdrop.mpr ?_ | refine wp_sfor.mpr ?_ | refine wp_spar.mpr ?_ | refine wp_saug.mpr ?_ | refine wp_son.mpr ?_ | refine wp_sapp.mpr ?_ | refine wp_sDraws.mpr ?_ | refine wp_sPop.mpr ?_ | refine wp_sPush.mpr ?_ | refine wp_m2.mpr ?_ | refine wp_evarB.mpr ?_ | refine wp_evar.mpr ?_ | refine wp_cst.mpr ?_ | refine wp_mC.mpr ?_ | refine wp_acons.mpr ?_ | refine wp_anil.mpr ?_ | refine wp_callM.mpr ?_ | refine wp_kwM.mpr ?_ | refine wp_mtup.mpr ?_ | refine wp_mlst.mpr ?_ | refine wp_msl.mpr ?_ | refine wp_onone.mpr ?_ | refine wp_osome.mpr ?_ | refine wp_tst.mpr ?_ | refine wp_tru.mpr ?_ | refine wp_tnot.mpr ?_ | refine wp_tand.mpr ?_ | refine wp_tor.mpr ?_ | refine wp_vand.mpr ?_ | refine wp_vor.mpr ?_ | refine wp_vnot.mpr ?_ | refine wp_vif.mpr ?_ | refine wp_tyes.mpr ?_ | refine wp_mM.mpr ?_ | refine wp_mneg.mpr ?_ | refine wp_mrevL.mpr ?_ | refine wp_mlenSet.mpr ?_ | refine wp_misi.mpr ?_ | refine wp_dkInt.mpr ?_ | refine wp_tCells.mpr ?_ | refine wp_iseq.mpr ?_ | refine wp_itup.mpr ?_ | refine wp_istr.mpr ?_ | refine wp_irng1.mpr ?_ | refine wp_defM.mpr ?_ | refine wp_starM.mpr ?_ | refine wp_mdisp.mpr ?_ | refine wp_sasg.mpr ?_) | (first | refine ⟨_, rfl, ?_⟩ | refine ⟨_, _, rfl, ?_⟩ | refine ⟨rfl, ?_⟩ | refine ⟨by (exact Nat.le_of_ble_eq_true rfl), ?_⟩ | refine ⟨_, by (first | rfl | exact dMod_ok (by (((try dsimp only); omega))) | exact dDiv_ok (by (((try dsimp only); omega))) (by (((try dsimp only); omega))) | exact dMul_r (by (((try dsimp only); omega))) (by (((try dsimp only); omega))) | exact dMul_l (by (((try dsimp only); omega))) (by (((try dsimp only); omega))) | assumption), ?_⟩ | refine ⟨_, _, rfl, by (exact Nat.le_of_ble_eq_true rfl), by (exact Nat.le_of_ble_eq_true rfl), ?_⟩))
    refine ⟨_, dSl_to (Nat.le_trans ha (by decide)), ?_⟩
    repeat (first | (with_reducible first | refine wp_sseq.mpr ?_ | refine wp_set.mpr ?_ | refine wp_sret.mpr ?_ | refine wp_sif.mpr ?_ | refine wp_snil.mpr ?_ | refine wp_sdrop.mpr ?_ | refine wp_sfor.mpr ?_ | refine wp_spar.mpr ?_ | refine wp_saug.mpr ?_ | refine wp_son.mpr ?_ | refine wp_sapp.mpr ?_ | refine wp_sDraws.mpr ?_ | refine wp_sPop.mpr ?_ | refine wp_sPush.mpr ?_ | refine wp_m2.mpr ?_ | refine wp_evarB.mpr ?_ | refine wp_evar.mpr ?_ | refine wp_cst.mpr ?_ | refine wp_mC.mpr ?_ | refine wp_acons.mpr ?_ | refine wp_anil.mpr ?_ | refine wp_callM.mpr ?_ | refine wp_kwM.mpr ?_ | refine wp_mtup.mpr ?_ | refine wp_mlst.mpr ?_ | refine wp_msl.mpr ?_ | refine wp_onone.mpr ?_ | refine wp_osome.mpr ?_ | refine wp_tst.mpr ?_ | refine wp_tru.mpr ?_ | refine wp_tnot.mpr ?_ | refine wp_tand.mpr ?_ | refine wp_tor.mpr ?_ | refine wp_vand.mpr ?_ | refine wp_vor.mpr ?_ | refine wp_vnot.mpr ?_ | refine wp_vif.mpr ?_ | refine wp_tyes.mpr ?_ | refine wp_mM.mpr ?_ | refine wp_mneg.mpr ?_ | refine wp_mrevL.mpr ?_ | refine wp_mlenSet.mpr ?_ | refine wp_misi.mpr ?_ | refine wp_dkInt.mpr ?_ | refine wp_tCells.mpr ?_ | refine wp_iseq.mpr ?_ | refine wp_itup.mpr ?_ | refine wp_istr.mpr ?_ | refine wp_irng1.mpr ?_ | refine wp_defM.mpr ?_ | refine wp_starM.mpr ?_ | refine wp_mdisp.mpr ?_ | refine wp_sasg.mpr ?_) | (first | refine ⟨_, rfl, ?_⟩ | refine ⟨_, _, rfl, ?_⟩ | refine ⟨rfl, ?_⟩ | refine ⟨by (exact Nat.le_of_ble_eq_true rfl), ?_⟩ | refine ⟨_, by (first | rfl | exact dMod_ok (by (((try dsimp only); omega))) | exact dDiv_ok (by (((try dsimp only); omega))) (by (((try dsimp only); omega))) | exact dMul_r (by (((try dsimp only); omega))) (by (((try dsimp only); omega))) | exact dMul_l (by (((try dsimp only); omega))) (by (((try dsimp only); omega))) | assumption), ?_⟩ | refine ⟨_, _, rfl, by (exact Nat.le_of_ble_eq_true rfl), by (exact Nat.le_of_ble_eq_true rfl), ?_⟩))
    have l1 := ((cpl_iff (y.take m) z _).mp (Nat.le_refl _)).1
    rw [List.length_take] at l1
    refine ⟨ps ++ [z], cpl (y.take m) z, some (false, tx z), some (false, .int (cpl (y.take m) z)), by simp, com_snoc z hc, ?_⟩
    rw [List.take_take, Nat.min_eq_left (by omega)]
    rfl
  · rintro e w' ⟨rfl, ps, m, o1, o2, eq, hc, rfl⟩
    have e2 : ps = r := by
      have := congrArg (List.filterMap fun d => match d with | D.str s => some s.cps.toList | _ => none) eq
      rw [List.filterMap_map, List.filterMap_map] at this
      have f : ((fun d => match d with | D.str s => some s.cps.toList | _ => none) ∘ tx) = some := by funext l; rfl
      rw [f, List.filterMap_some, List.filterMap_some] at this
      exact this.symm
    subst e2
    repeat (first | (with_reducible first | refine wp_sseq.mpr ?_ | refine wp_set.mpr ?_ | refine wp_sret.mpr ?_ | refine wp_sif.mpr ?_ | refine wp_snil.mpr ?_ | refine wp_sdrop.mpr ?_ | refine wp_sfor.mpr ?_ | refine wp_spar.mpr ?_ | refine wp_saug.mpr ?_ | refine wp_son.mpr ?_ | refine wp_sapp.mpr ?_ | refine wp_sDraws.mpr ?_ | refine wp_sPop.mpr ?_ | refine wp_sPush.mpr ?_ | refine wp_m2.mpr ?_ | refine wp_evarB.mpr ?_ | refine wp_evar.mpr ?_ | refine wp_cst.mpr ?_ | refine wp_mC.mpr ?_ | refine wp_acons.mpr ?_ | refine wp_anil.mpr ?_ | refine wp_callM.mpr ?_ | refine wp_kwM.mpr ?_ | refine wp_mtup.mpr ?_ | refine wp_mlst.mpr ?_ | refine wp_msl.mpr ?_ | refine wp_onone.mpr ?_ | refine wp_osome.mpr ?_ | refine wp_tst.mpr ?_ | refine wp_tru.mpr ?_ | refine wp_tnot.mpr ?_ | refine wp_tand.mpr ?_ | refine wp_tor.mpr ?_ | refine wp_vand.mpr ?_ | refine wp_vor.mpr ?_ | refine wp_vnot.mpr ?_ | refine wp_vif.mpr ?_ | refine wp_tyes.mpr ?_ | refine wp_mM.mpr ?_ | refine wp_mneg.mpr ?_ | refine wp_mrevL.mpr ?_ | refine wp_mlenSet.mpr ?_ | refine wp_misi.mpr ?_ | refine wp_dkInt.mpr ?_ | refine wp_tCells.mpr ?_ | refine wp_iseq.mpr ?_ | refine wp_itup.mpr ?_ | refine wp_istr.mpr ?_ | refine wp_irng1.mpr ?_ | refine wp_defM.mpr ?_ | refine wp_starM.mpr ?_ | refine wp_mdisp.mpr ?_ | refine wp_sasg.mpr ?_) | (first | refine ⟨_, rfl, ?_⟩ | refine ⟨_, _, rfl, ?_⟩ | refine ⟨rfl, ?_⟩ | refine ⟨by (exact Nat.le_of_ble_eq_true rfl), ?_⟩ | refine ⟨_, by (first | rfl | exact dMod_ok (by (((try dsimp only); omega))) | exact dDiv_ok (by (((try dsimp only); omega))) (by (((try dsimp only); omega))) | exact dMul_r (by (((try dsimp only); omega))) (by (((try dsimp only); omega))) | exact dMul_l (by (((try dsimp only); omega))) (by (((try dsimp only); omega))) | assumption), ?_⟩ | refine ⟨_, _, rfl, by (exact Nat.le_of_ble_eq_true rfl), by (exact Nat.le_of_ble_eq_true rfl), ?_⟩))
    exact hP m hc

/-! ### _law_alike -/
theorem once_sub {a : Str} : ∀ l : List Str, (∀ x ∈ l, x = a) → (once l).length ≤ 1 := by
  intro l h
  suffices q : ∀ l : List Str, (∀ x ∈ l, x = a) → once l = [] ∨ once l = [a] by
    rcases q l h with e | e <;> rw [e] <;> simp
  intro l h
  suffices q2 : ∀ l : List Str, (∀ x ∈ l, x = a) → once l.reverse = [] ∨ once l.reverse = [a] by
    have := q2 l.reverse fun x hx => h x (List.mem_reverse.mp hx)
    rw [List.reverse_reverse] at this
    exact this
  intro l
  induction l with
  | nil => intro _; exact .inl rfl
  | cons x l ih =>
    intro h
    have hx : x = a := h x (by simp)
    subst hx
    rw [List.reverse_cons, once_snoc]
    rcases ih fun y hy => h y (List.mem_cons_of_mem _ hy) with e | e
    · rw [e]; simp
    · rw [e]; simp
theorem once_one {x : Str} {l : List Str} : (once (x :: l)).length = 1 ↔ ∀ y ∈ l, y = x := by
  constructor
  · intro h y hy
    obtain ⟨a, ha⟩ := List.length_eq_one_iff.mp h
    have h1 := (mem_once (x :: l) x).mpr List.mem_cons_self
    have h2 := (mem_once (x :: l) y).mpr (List.mem_cons_of_mem _ hy)
    rw [ha, List.mem_singleton] at h1 h2
    rw [h1, h2]
  · intro h
    have h1 := once_sub (a := x) (x :: l) fun y hy => by
      rw [List.mem_cons] at hy
      rcases hy with rfl | hy
      · rfl
      · exact h y hy
    have h2 := List.length_pos_of_mem ((mem_once (x :: l) x).mpr List.mem_cons_self)
    omega
theorem alike_ok {y : List Nat} {r : List (List Nat)} {w : Wd} {P : D → Wd → Prop} (hl : r.length ≤ 100) (hs : ∀ z ∈ y :: r, z.length ≤ 1000) (hP : ∀ m, Com y r m → P (tx (y.take m)) w) : Ok (m_l_alike [.lst ((y :: r).map tx)] w) P := by
  have hy := hs y List.mem_cons_self
  obtain ⟨M, hM⟩ := com_ex y r
  have hMy := hM.le
  unfold m_l_alike g_l_alike
  repeat (first | (with_reducible first | refine wp_sseq.mpr ?_ | refine wp_set.mpr ?_ | refine wp_sret.mpr ?_ | refine wp_sif.mpr ?_ | refine wp_snil.mpr ?_ | refine wp_sdrop.mpr ?_ | refine wp_sfor.mpr ?_ | refine wp_spar.mpr ?_ | refine wp_saug.mpr ?_ | refine wp_son.mpr ?_ | refine wp_sapp.mpr ?_ | refine wp_sDraws.mpr ?_ | refine wp_sPop.mpr ?_ | refine wp_sPush.mpr ?_ | refine wp_m2.mpr ?_ | refine wp_evarB.mpr ?_ | refine wp_evar.mpr ?_ | refine wp_cst.mpr ?_ | refine wp_mC.mpr ?_ | refine wp_acons.mpr ?_ | refine wp_anil.mpr ?_ | refine wp_callM.mpr ?_ | refine wp_kwM.mpr ?_ | refine wp_mtup.mpr ?_ | refine wp_mlst.mpr ?_ | refine wp_msl.mpr ?_ | refine wp_onone.mpr ?_ | refine wp_osome.mpr ?_ | refine wp_tst.mpr ?_ | refine wp_tru.mpr ?_ | refine wp_tnot.mpr ?_ | refine wp_tand.mpr ?_ | refine wp_tor.mpr ?_ | refine wp_vand.mpr ?_ | refine wp_vor.mpr ?_ | refine wp_vnot.mpr ?_ | refine wp_vif.mpr ?_ | refine wp_tyes.mpr ?_ | refine wp_mM.mpr ?_ | refine wp_mneg.mpr ?_ | refine wp_mrevL.mpr ?_ | refine wp_mlenSet.mpr ?_ | refine wp_misi.mpr ?_ | refine wp_dkInt.mpr ?_ | refine wp_tCells.mpr ?_ | refine wp_iseq.mpr ?_ | refine wp_itup.mpr ?_ | refine wp_istr.mpr ?_ | refine wp_irng1.mpr ?_ | refine wp_defM.mpr ?_ | refine wp_starM.mpr ?_ | refine wp_mdisp.mpr ?_ | refine wp_sasg.mpr ?_) | (first | refine ⟨_, rfl, ?_⟩ | refine ⟨_, _, rfl, ?_⟩ | refine ⟨rfl, ?_⟩ | refine ⟨by (exact Nat.le_of_ble_eq_true rfl), ?_⟩ | refine ⟨_, by (first | rfl | exact dMod_ok (by (((try dsimp only); omega))) | exact dDiv_ok (by (((try dsimp only); omega))) (by (((try dsimp only); omega))) | exact dMul_r (by (((try dsimp only); omega))) (by (((try dsimp only); omega))) | exact dMul_l (by (((try dsimp only); omega))) (by (((try dsimp only); omega))) | assumption), ?_⟩ | refine ⟨_, _, rfl, by (exact Nat.le_of_ble_eq_true rfl), by (exact Nat.le_of_ble_eq_true rfl), ?_⟩))
  refine Sx.mono (N := fun e w' => w' = w ∧ ∃ o, e = [some (false, .lst ((y :: r).map tx)), some (false, .int M), o]) (C := no2) (B := no2) (while_inv (fun k e w' => w' = w ∧ ∃ (i : Nat) (o : Option (Bool × D)), k = M - i ∧ i ≤ M ∧ e = [some (false, .lst ((y :: r).map tx)), some (false, .int i), o]) ?_ (SL + 1) M _ _ (by show M < 16777216 + 1; omega) ⟨rfl, 0, none, rfl, Nat.zero_le _, rfl⟩) ?_ (fun _ _ h => False.elim h) (fun _ _ h => False.elim h) (fun _ _ h => h)
  · rintro k e w' ⟨rfl, i, o, hk, hi, rfl⟩
    have fin : ¬ i + 1 ≤ M → w' = w' ∧ ∃ o', [some (false, .lst ((y :: r).map tx)), some (false, D.int (i : Int)), o] = [some (false, .lst ((y :: r).map tx)), some (false, .int M), o'] := fun h => ⟨rfl, o, by
      have : i = M := by omega
      rw [this]⟩
    have step := com_iff hM (i + 1)
    repeat (first | (with_reducible first | refine wp_sseq.mpr ?_ | refine wp_set.mpr ?_ | refine wp_sret.mpr ?_ | refine wp_sif.mpr ?_ | refine wp_snil.mpr ?_ | refine wp_sdrop.mpr ?_ | refine wp_sfor.mpr ?_ | refine wp_spar.mpr ?_ | refine wp_saug.mpr ?_ | refine wp_son.mpr ?_ | refine wp_sapp.mpr ?_ | refine wp_sDraws.mpr ?_ | refine wp_sPop.mpr ?_ | refine wp_sPush.mpr ?_ | refine wp_m2.mpr ?_ | refine wp_evarB.mpr ?_ | refine wp_evar.mpr ?_ | refine wp_cst.mpr ?_ | refine wp_mC.mpr ?_ | refine wp_acons.mpr ?_ | refine wp_anil.mpr ?_ | refine wp_callM.mpr ?_ | refine wp_kwM.mpr ?_ | refine wp_mtup.mpr ?_ | refine wp_mlst.mpr ?_ | refine wp_msl.mpr ?_ | refine wp_onone.mpr ?_ | refine wp_osome.mpr ?_ | refine wp_tst.mpr ?_ | refine wp_tru.mpr ?_ | refine wp_tnot.mpr ?_ | refine wp_tand.mpr ?_ | refine wp_tor.mpr ?_ | refine wp_vand.mpr ?_ | refine wp_vor.mpr ?_ | refine wp_vnot.mpr ?_ | refine wp_vif.mpr ?_ | refine wp_tyes.mpr ?_ | refine wp_mM.mpr ?_ | refine wp_mneg.mpr ?_ | refine wp_mrevL.mpr ?_ | refine wp_mlenSet.mpr ?_ | refine wp_misi.mpr ?_ | refine wp_dkInt.mpr ?_ | refine wp_tCells.mpr ?_ | refine wp_iseq.mpr ?_ | refine wp_itup.mpr ?_ | refine wp_istr.mpr ?_ | refine wp_irng1.mpr ?_ | refine wp_defM.mpr ?_ | refine wp_starM.mpr ?_ | refine wp_mdisp.mpr ?_ | refine wp_sasg.mpr ?_) | (first | refine ⟨_, rfl, ?_⟩ | refine ⟨_, _, rfl, ?_⟩ | refine ⟨rfl, ?_⟩ | refine ⟨by (exact Nat.le_of_ble_eq_true rfl), ?_⟩ | refine ⟨_, by (first | rfl | exact dMod_ok (by (((try dsimp only); omega))) | exact dDiv_ok (by (((try dsimp only); omega))) (by (((try dsimp only); omega))) | exact dMul_r (by (((try dsimp only); omega))) (by (((try dsimp only); omega))) | exact dMul_l (by (((try dsimp only); omega))) (by (((try dsimp only); omega))) | assumption), ?_⟩ | refine ⟨_, _, rfl, by (exact Nat.le_of_ble_eq_true rfl), by (exact Nat.le_of_ble_eq_true rfl), ?_⟩))
    refine lc_inv (fun pre acc w'' => w'' = w' ∧ acc = pre.map fun d => match d with | .str s => .int s.length | _ => .non) ?_
    repeat (first | (with_reducible first | refine wp_sseq.mpr ?_ | refine wp_set.mpr ?_ | refine wp_sret.mpr ?_ | refine wp_sif.mpr ?_ | refine wp_snil.mpr ?_ | refine wp_sdrop.mpr ?_ | refine wp_sfor.mpr ?_ | refine wp_spar.mpr ?_ | refine wp_saug.mpr ?_ | refine wp_son.mpr ?_ | refine wp_sapp.mpr ?_ | refine wp_sDraws.mpr ?_ | refine wp_sPop.mpr ?_ | refine wp_sPush.mpr ?_ | refine wp_m2.mpr ?_ | refine wp_evarB.mpr ?_ | refine wp_evar.mpr ?_ | refine wp_cst.mpr ?_ | refine wp_mC.mpr ?_ | refine wp_acons.mpr ?_ | refine wp_anil.mpr ?_ | refine wp_callM.mpr ?_ | refine wp_kwM.mpr ?_ | refine wp_mtup.mpr ?_ | refine wp_mlst.mpr ?_ | refine wp_msl.mpr ?_ | refine wp_onone.mpr ?_ | refine wp_osome.mpr ?_ | refine wp_tst.mpr ?_ | refine wp_tru.mpr ?_ | refine wp_tnot.mpr ?_ | refine wp_tand.mpr ?_ | refine wp_tor.mpr ?_ | refine wp_vand.mpr ?_ | refine wp_vor.mpr ?_ | refine wp_vnot.mpr ?_ | refine wp_vif.mpr ?_ | refine wp_tyes.mpr ?_ | refine wp_mM.mpr ?_ | refine wp_mneg.mpr ?_ | refine wp_mrevL.mpr ?_ | refine wp_mlenSet.mpr ?_ | refine wp_misi.mpr ?_ | refine wp_dkInt.mpr ?_ | refine wp_tCells.mpr ?_ | refine wp_iseq.mpr ?_ | refine wp_itup.mpr ?_ | refine wp_istr.mpr ?_ | refine wp_irng1.mpr ?_ | refine wp_defM.mpr ?_ | refine wp_starM.mpr ?_ | refine wp_mdisp.mpr ?_ | refine wp_sasg.mpr ?_) | (first | refine ⟨_, rfl, ?_⟩ | refine ⟨_, _, rfl, ?_⟩ | refine ⟨rfl, ?_⟩ | refine ⟨by (exact Nat.le_of_ble_eq_true rfl), ?_⟩ | refine ⟨_, by (first | rfl | exact dMod_ok (by (((try dsimp only); omega))) | exact dDiv_ok (by (((try dsimp only); omega))) (by (((try dsimp only); omega))) | exact dMul_r (by (((try dsimp only); omega))) (by (((try dsimp only); omega))) | exact dMul_l (by (((try dsimp only); omega))) (by (((try dsimp only); omega))) | assumption), ?_⟩ | refine ⟨_, _, rfl, by (exact Nat.le_of_ble_eq_true rfl), by (exact Nat.le_of_ble_eq_true rfl), ?_⟩))
    refine ⟨?_, ⟨rfl, rfl⟩, by (exact Nat.le_of_ble_eq_true rfl), ?_, ?_⟩
    · show ((y :: r).map tx).length ≤ 16777216
      rw [List.length_map, List.length_cons]; omega
    · rintro pre post acc d w'' eq ⟨rfl, rfl⟩
      obtain ⟨z, hz, rfl⟩ : ∃ z, z ∈ y :: r ∧ tx z = d := List.mem_map.mp (by rw [eq]; simp)
      repeat (first | (with_reducible first | refine wp_sseq.mpr ?_ | refine wp_set.mpr ?_ | refine wp_sret.mpr ?_ | refine wp_sif.mpr ?_ | refine wp_snil.mpr ?_ | refine wp_sdrop.mpr ?_ | refine wp_sfor.mpr ?_ | refine wp_spar.mpr ?_ | refine wp_saug.mpr ?_ | refine wp_son.mpr ?_ | refine wp_sapp.mpr ?_ | refine wp_sDraws.mpr ?_ | refine wp_sPop.mpr ?_ | refine wp_sPush.mpr ?_ | refine wp_m2.mpr ?_ | refine wp_evarB.mpr ?_ | refine wp_evar.mpr ?_ | refine wp_cst.mpr ?_ | refine wp_mC.mpr ?_ | refine wp_acons.mpr ?_ | refine wp_anil.mpr ?_ | refine wp_callM.mpr ?_ | refine wp_kwM.mpr ?_ | refine wp_mtup.mpr ?_ | refine wp_mlst.mpr ?_ | refine wp_msl.mpr ?_ | refine wp_onone.mpr ?_ | refine wp_osome.mpr ?_ | refine wp_tst.mpr ?_ | refine wp_tru.mpr ?_ | refine wp_tnot.mpr ?_ | refine wp_tand.mpr ?_ | refine wp_tor.mpr ?_ | refine wp_vand.mpr ?_ | refine wp_vor.mpr ?_ | refine wp_vnot.mpr ?_ | refine wp_vif.mpr ?_ | refine wp_tyes.mpr ?_ | refine wp_mM.mpr ?_ | refine wp_mneg.mpr ?_ | refine wp_mrevL.mpr ?_ | refine wp_mlenSet.mpr ?_ | refine wp_misi.mpr ?_ | refine wp_dkInt.mpr ?_ | refine wp_tCells.mpr ?_ | refine wp_iseq.mpr ?_ | refine wp_itup.mpr ?_ | refine wp_istr.mpr ?_ | refine wp_irng1.mpr ?_ | refine wp_defM.mpr ?_ | refine wp_starM.mpr ?_ | refine wp_mdisp.mpr ?_ | refine wp_sasg.mpr ?_) | (first | refine ⟨_, rfl, ?_⟩ | refine ⟨_, _, rfl, ?_⟩ | refine ⟨rfl, ?_⟩ | refine ⟨by (exact Nat.le_of_ble_eq_true rfl), ?_⟩ | refine ⟨_, by (first | rfl | exact dMod_ok (by (((try dsimp only); omega))) | exact dDiv_ok (by (((try dsimp only); omega))) (by (((try dsimp only); omega))) | exact dMul_r (by (((try dsimp only); omega))) (by (((try dsimp only); omega))) | exact dMul_l (by (((try dsimp only); omega))) (by (((try dsimp only); omega))) | assumption), ?_⟩ | refine ⟨_, _, rfl, by (exact Nat.le_of_ble_eq_true rfl), by (exact Nat.le_of_ble_eq_true rfl), ?_⟩))
      refine ⟨_, dLen_tx (Nat.le_trans (hs z hz) (by decide)), ?_⟩
      repeat (first | (with_reducible first | refine wp_sseq.mpr ?_ | refine wp_set.mpr ?_ | refine wp_sret.mpr ?_ | refine wp_sif.mpr ?_ | refine wp_snil.mpr ?_ | refine wp_sdrop.mpr ?_ | refine wp_sfor.mpr ?_ | refine wp_spar.mpr ?_ | refine wp_saug.mpr ?_ | refine wp_son.mpr ?_ | refine wp_sapp.mpr ?_ | refine wp_sDraws.mpr ?_ | refine wp_sPop.mpr ?_ | refine wp_sPush.mpr ?_ | refine wp_m2.mpr ?_ | refine wp_evarB.mpr ?_ | refine wp_evar.mpr ?_ | refine wp_cst.mpr ?_ | refine wp_mC.mpr ?_ | refine wp_acons.mpr ?_ | refine wp_anil.mpr ?_ | refine wp_callM.mpr ?_ | refine wp_kwM.mpr ?_ | refine wp_mtup.mpr ?_ | refine wp_mlst.mpr ?_ | refine wp_msl.mpr ?_ | refine wp_onone.mpr ?_ | refine wp_osome.mpr ?_ | refine wp_tst.mpr ?_ | refine wp_tru.mpr ?_ | refine wp_tnot.mpr ?_ | refine wp_tand.mpr ?_ | refine wp_tor.mpr ?_ | refine wp_vand.mpr ?_ | refine wp_vor.mpr ?_ | refine wp_vnot.mpr ?_ | refine wp_vif.mpr ?_ | refine wp_tyes.mpr ?_ | refine wp_mM.mpr ?_ | refine wp_mneg.mpr ?_ | refine wp_mrevL.mpr ?_ | refine wp_mlenSet.mpr ?_ | refine wp_misi.mpr ?_ | refine wp_dkInt.mpr ?_ | refine wp_tCells.mpr ?_ | refine wp_iseq.mpr ?_ | refine wp_itup.mpr ?_ | refine wp_istr.mpr ?_ | refine wp_irng1.mpr ?_ | refine wp_defM.mpr ?_ | refine wp_starM.mpr ?_ | refine wp_mdisp.mpr ?_ | refine wp_sasg.mpr ?_) | (first | refine ⟨_, rfl, ?_⟩ | refine ⟨_, _, rfl, ?_⟩ | refine ⟨rfl, ?_⟩ | refine ⟨by (exact Nat.le_of_ble_eq_true rfl), ?_⟩ | refine ⟨_, by (first | rfl | exact dMod_ok (by (((try dsimp only); omega))) | exact dDiv_ok (by (((try dsimp only); omega))) (by (((try dsimp only); omega))) | exact dMul_r (by (((try dsimp only); omega))) (by (((try dsimp only); omega))) | exact dMul_l (by (((try dsimp only); omega))) (by (((try dsimp only); omega))) | assumption), ?_⟩ | refine ⟨_, _, rfl, by (exact Nat.le_of_ble_eq_true rfl), by (exact Nat.le_of_ble_eq_true rfl), ?_⟩))
      rw [List.map_append]
      show _ ++ [D.int z.length] = _ ++ [D.int (mkT z).length]
      rw [mkT_len]
    · rintro acc w'' ⟨rfl, rfl⟩
      have ea : (((y :: r).map tx).map fun d => match d with | .str s => .int s.length | _ => .non) = (y :: r).map fun z => D.int z.length :=
        (List.map_map ..).trans (List.map_congr_left fun z _ => by show D.int (mkT z).length = _; rw [mkT_len])
      rw [ea]
      obtain ⟨m, em, hm⟩ := dMin_lens y r
      repeat (first | (with_reducible first | refine wp_sseq.mpr ?_ | refine wp_set.mpr ?_ | refine wp_sret.mpr ?_ | refine wp_sif.mpr ?_ | refine wp_snil.mpr ?_ | refine wp_sdrop.mpr ?_ | refine wp_sfor.mpr ?_ | refine wp_spar.mpr ?_ | refine wp_saug.mpr ?_ | refine wp_son.mpr ?_ | refine wp_sapp.mpr ?_ | refine wp_sDraws.mpr ?_ | refine wp_sPop.mpr ?_ | refine wp_sPush.mpr ?_ | refine wp_m2.mpr ?_ | refine wp_evarB.mpr ?_ | refine wp_evar.mpr ?_ | refine wp_cst.mpr ?_ | refine wp_mC.mpr ?_ | refine wp_acons.mpr ?_ | refine wp_anil.mpr ?_ | refine wp_callM.mpr ?_ | refine wp_kwM.mpr ?_ | refine wp_mtup.mpr ?_ | refine wp_mlst.mpr ?_ | refine wp_msl.mpr ?_ | refine wp_onone.mpr ?_ | refine wp_osome.mpr ?_ | refine wp_tst.mpr ?_ | refine wp_tru.mpr ?_ | refine wp_tnot.mpr ?_ | refine wp_tand.mpr ?_ | refine wp_tor.mpr ?_ | refine wp_vand.mpr ?_ | refine wp_vor.mpr ?_ | refine wp_vnot.mpr ?_ | refine wp_vif.mpr ?_ | refine wp_tyes.mpr ?_ | refine wp_mM.mpr ?_ | refine wp_mneg.mpr ?_ | refine wp_mrevL.mpr ?_ | refine wp_mlenSet.mpr ?_ | refine wp_misi.mpr ?_ | refine wp_dkInt.mpr ?_ | refine wp_tCells.mpr ?_ | refine wp_iseq.mpr ?_ | refine wp_itup.mpr ?_ | refine wp_istr.mpr ?_ | refine wp_irng1.mpr ?_ | refine wp_defM.mpr ?_ | refine wp_starM.mpr ?_ | refine wp_mdisp.mpr ?_ | refine wp_sasg.mpr ?_) | (first | refine ⟨_, rfl, ?_⟩ | refine ⟨_, _, rfl, ?_⟩ | refine ⟨rfl, ?_⟩ | refine ⟨by (exact Nat.le_of_ble_eq_true rfl), ?_⟩ | refine ⟨_, by (first | rfl | exact dMod_ok (by (((try dsimp only); omega))) | exact dDiv_ok (by (((try dsimp only); omega))) (by (((try dsimp only); omega))) | exact dMul_r (by (((try dsimp only); omega))) (by (((try dsimp only); omega))) | exact dMul_l (by (((try dsimp only); omega))) (by (((try dsimp only); omega))) | assumption), ?_⟩ | refine ⟨_, _, rfl, by (exact Nat.le_of_ble_eq_true rfl), by (exact Nat.le_of_ble_eq_true rfl), ?_⟩))
      refine ⟨fun h1 => ?_, fun h1 => ⟨fun h => absurd h (by decide), fun _ => fin fun hc => ?_⟩⟩
      · have h1 := (hm i).mp (of_decide_eq_true h1)
        repeat (first | (with_reducible first | refine wp_sseq.mpr ?_ | refine wp_set.mpr ?_ | refine wp_sret.mpr ?_ | refine wp_sif.mpr ?_ | refine wp_snil.mpr ?_ | refine wp_sdrop.mpr ?_ | refine wp_sfor.mpr ?_ | refine wp_spar.mpr ?_ | refine wp_saug.mpr ?_ | refine wp_son.mpr ?_ | refine wp_sapp.mpr ?_ | refine wp_sDraws.mpr ?_ | refine wp_sPop.mpr ?_ | refine wp_sPush.mpr ?_ | refine wp_m2.mpr ?_ | refine wp_evarB.mpr ?_ | refine wp_evar.mpr ?_ | refine wp_cst.mpr ?_ | refine wp_mC.mpr ?_ | refine wp_acons.mpr ?_ | refine wp_anil.mpr ?_ | refine wp_callM.mpr ?_ | refine wp_kwM.mpr ?_ | refine wp_mtup.mpr ?_ | refine wp_mlst.mpr ?_ | refine wp_msl.mpr ?_ | refine wp_onone.mpr ?_ | refine wp_osome.mpr ?_ | refine wp_tst.mpr ?_ | refine wp_tru.mpr ?_ | refine wp_tnot.mpr ?_ | refine wp_tand.mpr ?_ | refine wp_tor.mpr ?_ | refine wp_vand.mpr ?_ | refine wp_vor.mpr ?_ | refine wp_vnot.mpr ?_ | refine wp_vif.mpr ?_ | refine wp_tyes.mpr ?_ | refine wp_mM.mpr ?_ | refine wp_mneg.mpr ?_ | refine wp_mrevL.mpr ?_ | refine wp_mlenSet.mpr ?_ | refine wp_misi.mpr ?_ | refine wp_dkInt.mpr ?_ | refine wp_tCells.mpr ?_ | refine wp_iseq.mpr ?_ | refine wp_itup.mpr ?_ | refine wp_istr.mpr ?_ | refine wp_irng1.mpr ?_ | refine wp_defM.mpr ?_ | refine wp_starM.mpr ?_ | refine wp_mdisp.mpr ?_ | refine wp_sasg.mpr ?_) | (first | refine ⟨_, rfl, ?_⟩ | refine ⟨_, _, rfl, ?_⟩ | refine ⟨rfl, ?_⟩ | refine ⟨by (exact Nat.le_of_ble_eq_true rfl), ?_⟩ | refine ⟨_, by (first | rfl | exact dMod_ok (by (((try dsimp only); omega))) | exact dDiv_ok (by (((try dsimp only); omega))) (by (((try dsimp only); omega))) | exact dMul_r (by (((try dsimp only); omega))) (by (((try dsimp only); omega))) | exact dMul_l (by (((try dsimp only); omega))) (by (((try dsimp only); omega))) | assumption), ?_⟩ | refine ⟨_, _, rfl, by (exact Nat.le_of_ble_eq_true rfl), by (exact Nat.le_of_ble_eq_true rfl), ?_⟩))
        refine lc_inv (fun pre acc w3 => w3 = w'' ∧ acc = pre.map fun d => match d with | .str s => tx (s.cps.toList.take (i + 1)) | _ => .non) ?_
        repeat (first | (with_reducible first | refine wp_sseq.mpr ?_ | refine wp_set.mpr ?_ | refine wp_sret.mpr ?_ | refine wp_sif.mpr ?_ | refine wp_snil.mpr ?_ | refine wp_sdrop.mpr ?_ | refine wp_sfor.mpr ?_ | refine wp_spar.mpr ?_ | refine wp_saug.mpr ?_ | refine wp_son.mpr ?_ | refine wp_sapp.mpr ?_ | refine wp_sDraws.mpr ?_ | refine wp_sPop.mpr ?_ | refine wp_sPush.mpr ?_ | refine wp_m2.mpr ?_ | refine wp_evarB.mpr ?_ | refine wp_evar.mpr ?_ | refine wp_cst.mpr ?_ | refine wp_mC.mpr ?_ | refine wp_acons.mpr ?_ | refine wp_anil.mpr ?_ | refine wp_callM.mpr ?_ | refine wp_kwM.mpr ?_ | refine wp_mtup.mpr ?_ | refine wp_mlst.mpr ?_ | refine wp_msl.mpr ?_ | refine wp_onone.mpr ?_ | refine wp_osome.mpr ?_ | refine wp_tst.mpr ?_ | refine wp_tru.mpr ?_ | refine wp_tnot.mpr ?_ | refine wp_tand.mpr ?_ | refine wp_tor.mpr ?_ | refine wp_vand.mpr ?_ | refine wp_vor.mpr ?_ | refine wp_vnot.mpr ?_ | refine wp_vif.mpr ?_ | refine wp_tyes.mpr ?_ | refine wp_mM.mpr ?_ | refine wp_mneg.mpr ?_ | refine wp_mrevL.mpr ?_ | refine wp_mlenSet.mpr ?_ | refine wp_misi.mpr ?_ | refine wp_dkInt.mpr ?_ | refine wp_tCells.mpr ?_ | refine wp_iseq.mpr ?_ | refine wp_itup.mpr ?_ | refine wp_istr.mpr ?_ | refine wp_irng1.mpr ?_ | refine wp_defM.mpr ?_ | refine wp_starM.mpr ?_ | refine wp_mdisp.mpr ?_ | refine wp_sasg.mpr ?_) | (first | refine ⟨_, rfl, ?_⟩ | refine ⟨_, _, rfl, ?_⟩ | refine ⟨rfl, ?_⟩ | refine ⟨by (exact Nat.le_of_ble_eq_true rfl), ?_⟩ | refine ⟨_, by (first | rfl | exact dMod_ok (by (((try dsimp only); omega))) | exact dDiv_ok (by (((try dsimp only); omega))) (by (((try dsimp only); omega))) | exact dMul_r (by (((try dsimp only); omega))) (by (((try dsimp only); omega))) | exact dMul_l (by (((try dsimp only); omega))) (by (((try dsimp only); omega))) | assumption), ?_⟩ | refine ⟨_, _, rfl, by (exact Nat.le_of_ble_eq_true rfl), by (exact Nat.le_of_ble_eq_true rfl), ?_⟩))
        refine ⟨?_, ⟨rfl, rfl⟩, by (exact Nat.le_of_ble_eq_true rfl), ?_, ?_⟩
        · show ((y :: r).map tx).length ≤ 16777216
          rw [List.length_map, List.length_cons]; omega
        · rintro pre post acc d w3 eq ⟨rfl, rfl⟩
          obtain ⟨z, hz, rfl⟩ : ∃ z, z ∈ y :: r ∧ tx z = d := List.mem_map.mp (by rw [eq]; simp)
          repeat (first | (with_reducible first | refine wp_sseq.mpr ?_ | refine wp_set.mpr ?_ | refine wp_sret.mpr ?_ | refine wp_sif.mpr ?_ | refine wp_snil.mpr ?_ | refine wp_sdrop.mpr ?_ | refine wp_sfor.mpr ?_ | refine wp_spar.mpr ?_ | refine wp_saug.mpr ?_ | refine wp_son.mpr ?_ | refine wp_sapp.mpr ?_ | refine wp_sDraws.mpr ?_ | refine wp_sPop.mpr ?_ | refine wp_sPush.mpr ?_ | refine wp_m2.mpr ?_ | refine wp_evarB.mpr ?_ | refine wp_evar.mpr ?_ | refine wp_cst.mpr ?_ | refine wp_mC.mpr ?_ | refine wp_acons.mpr ?_ | refine wp_anil.mpr ?_ | refine wp_callM.mpr ?_ | refine wp_kwM.mpr ?_ | refine wp_mtup.mpr ?_ | refine wp_mlst.mpr ?_ | refine wp_msl.mpr ?_ | refine wp_onone.mpr ?_ | refine wp_osome.mpr ?_ | refine wp_tst.mpr ?_ | refine wp_tru.mpr ?_ | refine wp_tnot.mpr ?_ | refine wp_tand.mpr ?_ | refine wp_tor.mpr ?_ | refine wp_vand.mpr ?_ | refine wp_vor.mpr ?_ | refine wp_vnot.mpr ?_ | refine wp_vif.mpr ?_ | refine wp_tyes.mpr ?_ | refine wp_mM.mpr ?_ | refine wp_mneg.mpr ?_ | refine wp_mrevL.mpr ?_ | refine wp_mlenSet.mpr ?_ | refine wp_misi.mpr ?_ | refine wp_dkInt.mpr ?_ | refine wp_tCells.mpr ?_ | refine wp_iseq.mpr ?_ | refine wp_itup.mpr ?_ | refine wp_istr.mpr ?_ | refine wp_irng1.mpr ?_ | refine wp_defM.mpr ?_ | refine wp_starM.mpr ?_ | refine wp_mdisp.mpr ?_ | refine wp_sasg.mpr ?_) | (first | refine ⟨_, rfl, ?_⟩ | refine ⟨_, _, rfl, ?_⟩ | refine ⟨rfl, ?_⟩ | refine ⟨by (exact Nat.le_of_ble_eq_true rfl), ?_⟩ | refine ⟨_, by (first | rfl | exact dMod_ok (by (((try dsimp only); omega))) | exact dDiv_ok (by (((try dsimp only); omega))) (by (((try dsimp only); omega))) | exact dMul_r (by (((try dsimp only); omega))) (by (((try dsimp only); omega))) | exact dMul_l (by (((try dsimp only); omega))) (by (((try dsimp only); omega))) | assumption), ?_⟩ | refine ⟨_, _, rfl, by (exact Nat.le_of_ble_eq_true rfl), by (exact Nat.le_of_ble_eq_true rfl), ?_⟩))
          refine ⟨_, dSl_to (k := i + 1) (Nat.le_trans (hs z hz) (by decide)), ?_⟩
          repeat (first | (with_reducible first | refine wp_sseq.mpr ?_ | refine wp_set.mpr ?_ | refine wp_sret.mpr ?_ | refine wp_sif.mpr ?_ | refine wp_snil.mpr ?_ | refine wp_sdrop.mpr ?_ | refine wp_sfor.mpr ?_ | refine wp_spar.mpr ?_ | refine wp_saug.mpr ?_ | refine wp_son.mpr ?_ | refine wp_sapp.mpr ?_ | refine wp_sDraws.mpr ?_ | refine wp_sPop.mpr ?_ | refine wp_sPush.mpr ?_ | refine wp_m2.mpr ?_ | refine wp_evarB.mpr ?_ | refine wp_evar.mpr ?_ | refine wp_cst.mpr ?_ | refine wp_mC.mpr ?_ | refine wp_acons.mpr ?_ | refine wp_anil.mpr ?_ | refine wp_callM.mpr ?_ | refine wp_kwM.mpr ?_ | refine wp_mtup.mpr ?_ | refine wp_mlst.mpr ?_ | refine wp_msl.mpr ?_ | refine wp_onone.mpr ?_ | refine wp_osome.mpr ?_ | refine wp_tst.mpr ?_ | refine wp_tru.mpr ?_ | refine wp_tnot.mpr ?_ | refine wp_tand.mpr ?_ | refine wp_tor.mpr ?_ | refine wp_vand.mpr ?_ | refine wp_vor.mpr ?_ | refine wp_vnot.mpr ?_ | refine wp_vif.mpr ?_ | refine wp_tyes.mpr ?_ | refine wp_mM.mpr ?_ | refine wp_mneg.mpr ?_ | refine wp_mrevL.mpr ?_ | refine wp_mlenSet.mpr ?_ | refine wp_misi.mpr ?_ | refine wp_dkInt.mpr ?_ | refine wp_tCells.mpr ?_ | refine wp_iseq.mpr ?_ | refine wp_itup.mpr ?_ | refine wp_istr.mpr ?_ | refine wp_irng1.mpr ?_ | refine wp_defM.mpr ?_ | refine wp_starM.mpr ?_ | refine wp_mdisp.mpr ?_ | refine wp_sasg.mpr ?_) | (first | refine ⟨_, rfl, ?_⟩ | refine ⟨_, _, rfl, ?_⟩ | refine ⟨rfl, ?_⟩ | refine ⟨by (exact Nat.le_of_ble_eq_true rfl), ?_⟩ | refine ⟨_, by (first | rfl | exact dMod_ok (by (((try dsimp only); omega))) | exact dDiv_ok (by (((try dsimp only); omega))) (by (((try dsimp only); omega))) | exact dMul_r (by (((try dsimp only); omega))) (by (((try dsimp only); omega))) | exact dMul_l (by (((try dsimp only); omega))) (by (((try dsimp only); omega))) | assumption), ?_⟩ | refine ⟨_, _, rfl, by (exact Nat.le_of_ble_eq_true rfl), by (exact Nat.le_of_ble_eq_true rfl), ?_⟩))
          rw [List.map_append]
          rfl
        · rintro acc w3 ⟨rfl, rfl⟩
          have ea : (((y :: r).map tx).map fun d => match d with | .str s => tx (s.cps.toList.take (i + 1)) | _ => .non) = ((y :: r).map fun z => z.take (i + 1)).map tx := by
            rw [List.map_map, List.map_map]
            rfl
          rw [ea]
          repeat (first | (with_reducible first | refine wp_sseq.mpr ?_ | refine wp_set.mpr ?_ | refine wp_sret.mpr ?_ | refine wp_sif.mpr ?_ | refine wp_snil.mpr ?_ | refine wp_sdrop.mpr ?_ | refine wp_sfor.mpr ?_ | refine wp_spar.mpr ?_ | refine wp_saug.mpr ?_ | refine wp_son.mpr ?_ | refine wp_sapp.mpr ?_ | refine wp_sDraws.mpr ?_ | refine wp_sPop.mpr ?_ | refine wp_sPush.mpr ?_ | refine wp_m2.mpr ?_ | refine wp_evarB.mpr ?_ | refine wp_evar.mpr ?_ | refine wp_cst.mpr ?_ | refine wp_mC.mpr ?_ | refine wp_acons.mpr ?_ | refine wp_anil.mpr ?_ | refine wp_callM.mpr ?_ | refine wp_kwM.mpr ?_ | refine wp_mtup.mpr ?_ | refine wp_mlst.mpr ?_ | refine wp_msl.mpr ?_ | refine wp_onone.mpr ?_ | refine wp_osome.mpr ?_ | refine wp_tst.mpr ?_ | refine wp_tru.mpr ?_ | refine wp_tnot.mpr ?_ | refine wp_tand.mpr ?_ | refine wp_tor.mpr ?_ | refine wp_vand.mpr ?_ | refine wp_vor.mpr ?_ | refine wp_vnot.mpr ?_ | refine wp_vif.mpr ?_ | refine wp_tyes.mpr ?_ | refine wp_mM.mpr ?_ | refine wp_mneg.mpr ?_ | refine wp_mrevL.mpr ?_ | refine wp_mlenSet.mpr ?_ | refine wp_misi.mpr ?_ | refine wp_dkInt.mpr ?_ | refine wp_tCells.mpr ?_ | refine wp_iseq.mpr ?_ | refine wp_itup.mpr ?_ | refine wp_istr.mpr ?_ | refine wp_irng1.mpr ?_ | refine wp_defM.mpr ?_ | refine wp_starM.mpr ?_ | refine wp_mdisp.mpr ?_ | refine wp_sasg.mpr ?_) | (first | refine ⟨_, rfl, ?_⟩ | refine ⟨_, _, rfl, ?_⟩ | refine ⟨rfl, ?_⟩ | refine ⟨by (exact Nat.le_of_ble_eq_true rfl), ?_⟩ | refine ⟨_, by (first | rfl | exact dMod_ok (by (((try dsimp only); omega))) | exact dDiv_ok (by (((try dsimp only); omega))) (by (((try dsimp only); omega))) | exact dMul_r (by (((try dsimp only); omega))) (by (((try dsimp only); omega))) | exact dMul_l (by (((try dsimp only); omega))) (by (((try dsimp only); omega))) | assumption), ?_⟩ | refine ⟨_, _, rfl, by (exact Nat.le_of_ble_eq_true rfl), by (exact Nat.le_of_ble_eq_true rfl), ?_⟩))
          refine ⟨_, dLenSet_tx (by rw [List.length_map, List.length_cons]; omega), ?_⟩
          repeat (first | (with_reducible first | refine wp_sseq.mpr ?_ | refine wp_set.mpr ?_ | refine wp_sret.mpr ?_ | refine wp_sif.mpr ?_ | refine wp_snil.mpr ?_ | refine wp_sdrop.mpr ?_ | refine wp_sfor.mpr ?_ | refine wp_spar.mpr ?_ | refine wp_saug.mpr ?_ | refine wp_son.mpr ?_ | refine wp_sapp.mpr ?_ | refine wp_sDraws.mpr ?_ | refine wp_sPop.mpr ?_ | refine wp_sPush.mpr ?_ | refine wp_m2.mpr ?_ | refine wp_evarB.mpr ?_ | refine wp_evar.mpr ?_ | refine wp_cst.mpr ?_ | refine wp_mC.mpr ?_ | refine wp_acons.mpr ?_ | refine wp_anil.mpr ?_ | refine wp_callM.mpr ?_ | refine wp_kwM.mpr ?_ | refine wp_mtup.mpr ?_ | refine wp_mlst.mpr ?_ | refine wp_msl.mpr ?_ | refine wp_onone.mpr ?_ | refine wp_osome.mpr ?_ | refine wp_tst.mpr ?_ | refine wp_tru.mpr ?_ | refine wp_tnot.mpr ?_ | refine wp_tand.mpr ?_ | refine wp_tor.mpr ?_ | refine wp_vand.mpr ?_ | refine wp_vor.mpr ?_ | refine wp_vnot.mpr ?_ | refine wp_vif.mpr ?_ | refine wp_tyes.mpr ?_ | refine wp_mM.mpr ?_ | refine wp_mneg.mpr ?_ | refine wp_mrevL.mpr ?_ | refine wp_mlenSet.mpr ?_ | refine wp_misi.mpr ?_ | refine wp_dkInt.mpr ?_ | refine wp_tCells.mpr ?_ | refine wp_iseq.mpr ?_ | refine wp_itup.mpr ?_ | refine wp_istr.mpr ?_ | refine wp_irng1.mpr ?_ | refine wp_defM.mpr ?_ | refine wp_starM.mpr ?_ | refine wp_mdisp.mpr ?_ | refine wp_sasg.mpr ?_) | (first | refine ⟨_, rfl, ?_⟩ | refine ⟨_, _, rfl, ?_⟩ | refine ⟨rfl, ?_⟩ | refine ⟨by (exact Nat.le_of_ble_eq_true rfl), ?_⟩ | refine ⟨_, by (first | rfl | exact dMod_ok (by (((try dsimp only); omega))) | exact dDiv_ok (by (((try dsimp only); omega))) (by (((try dsimp only); omega))) | exact dMul_r (by (((try dsimp only); omega))) (by (((try dsimp only); omega))) | exact dMul_l (by (((try dsimp only); omega))) (by (((try dsimp only); omega))) | assumption), ?_⟩ | refine ⟨_, _, rfl, by (exact Nat.le_of_ble_eq_true rfl), by (exact Nat.le_of_ble_eq_true rfl), ?_⟩))
          have t : (once (((y :: r).map fun z => z.take (i + 1)).map mkT)).length = 1 ↔ i + 1 ≤ M := by
            rw [hM (i + 1)]
            show (once (mkT (y.take (i + 1)) :: (r.map fun z => z.take (i + 1)).map mkT)).length = 1 ↔ _
            rw [once_one]
            constructor
            · intro f
              exact ⟨h1 y List.mem_cons_self, fun z hz => ⟨h1 z (List.mem_cons_of_mem _ hz), mkT_inj (f _ (List.mem_map_of_mem (List.mem_map_of_mem hz)))⟩⟩
            · intro f x hx
              obtain ⟨_, h2, rfl⟩ := List.mem_map.mp hx
              obtain ⟨z, hz, rfl⟩ := List.mem_map.mp h2
              rw [(f.2 z hz).2]
          refine ⟨fun h2 => ⟨M - (i + 1), ?_, ?_⟩, fun h2 => fin fun hc => ?_⟩
          · have h2 := of_decide_eq_true h2
            have := t.mp (by omega)
            omega
          · have h2 := of_decide_eq_true h2
            have := t.mp (by omega)
            repeat (first | (with_reducible first | refine wp_sseq.mpr ?_ | refine wp_set.mpr ?_ | refine wp_sret.mpr ?_ | refine wp_sif.mpr ?_ | refine wp_snil.mpr ?_ | refine wp_sdrop.mpr ?_ | refine wp_sfor.mpr ?_ | refine wp_spar.mpr ?_ | refine wp_saug.mpr ?_ | refine wp_son.mpr ?_ | refine wp_sapp.mpr ?_ | refine wp_sDraws.mpr ?_ | refine wp_sPop.mpr ?_ | refine wp_sPush.mpr ?_ | refine wp_m2.mpr ?_ | refine wp_evarB.mpr ?_ | refine wp_evar.mpr ?_ | refine wp_cst.mpr ?_ | refine wp_mC.mpr ?_ | refine wp_acons.mpr ?_ | refine wp_anil.mpr ?_ | refine wp_callM.mpr ?_ | refine wp_kwM.mpr ?_ | refine wp_mtup.mpr ?_ | refine wp_mlst.mpr ?_ | refine wp_msl.mpr ?_ | refine wp_onone.mpr ?_ | refine wp_osome.mpr ?_ | refine wp_tst.mpr ?_ | refine wp_tru.mpr ?_ | refine wp_tnot.mpr ?_ | refine wp_tand.mpr ?_ | refine wp_tor.mpr ?_ | refine wp_vand.mpr ?_ | refine wp_vor.mpr ?_ | refine wp_vnot.mpr ?_ | refine wp_vif.mpr ?_ | refine wp_tyes.mpr ?_ | refine wp_mM.mpr ?_ | refine wp_mneg.mpr ?_ | refine wp_mrevL.mpr ?_ | refine wp_mlenSet.mpr ?_ | refine wp_misi.mpr ?_ | refine wp_dkInt.mpr ?_ | refine wp_tCells.mpr ?_ | refine wp_iseq.mpr ?_ | refine wp_itup.mpr ?_ | refine wp_istr.mpr ?_ | refine wp_irng1.mpr ?_ | refine wp_defM.mpr ?_ | refine wp_starM.mpr ?_ | refine wp_mdisp.mpr ?_ | refine wp_sasg.mpr ?_) | (first | refine ⟨_, rfl, ?_⟩ | refine ⟨_, _, rfl, ?_⟩ | refine ⟨rfl, ?_⟩ | refine ⟨by (exact Nat.le_of_ble_eq_true rfl), ?_⟩ | refine ⟨_, by (first | rfl | exact dMod_ok (by (((try dsimp only); omega))) | exact dDiv_ok (by (((try dsimp only); omega))) (by (((try dsimp only); omega))) | exact dMul_r (by (((try dsimp only); omega))) (by (((try dsimp only); omega))) | exact dMul_l (by (((try dsimp only); omega))) (by (((try dsimp only); omega))) | assumption), ?_⟩ | refine ⟨_, _, rfl, by (exact Nat.le_of_ble_eq_true rfl), by (exact Nat.le_of_ble_eq_true rfl), ?_⟩))
            exact ⟨i + 1, o, rfl, this, rfl⟩
          · have h2 := of_decide_eq_false h2
            exact h2 (by rw [t.mpr hc]; rfl)
      · have h1 := of_decide_eq_false h1
        refine h1 ((hm i).mpr fun z hz => ?_)
        exact (step.mp hc z hz z hz).1
  · rintro e w' ⟨rfl, o, rfl⟩
    repeat (first | (with_reducible first | refine wp_sseq.mpr ?_ | refine wp_set.mpr ?_ | refine wp_sret.mpr ?_ | refine wp_sif.mpr ?_ | refine wp_snil.mpr ?_ | refine wp_sdrop.mpr ?_ | refine wp_sfor.mpr ?_ | refine wp_spar.mpr ?_ | refine wp_saug.mpr ?_ | refine wp_son.mpr ?_ | refine wp_sapp.mpr ?_ | refine wp_sDraws.mpr ?_ | refine wp_sPop.mpr ?_ | refine wp_sPush.mpr ?_ | refine wp_m2.mpr ?_ | refine wp_evarB.mpr ?_ | refine wp_evar.mpr ?_ | refine wp_cst.mpr ?_ | refine wp_mC.mpr ?_ | refine wp_acons.mpr ?_ | refine wp_anil.mpr ?_ | refine wp_callM.mpr ?_ | refine wp_kwM.mpr ?_ | refine wp_mtup.mpr ?_ | refine wp_mlst.mpr ?_ | refine wp_msl.mpr ?_ | refine wp_onone.mpr ?_ | refine wp_osome.mpr ?_ | refine wp_tst.mpr ?_ | refine wp_tru.mpr ?_ | refine wp_tnot.mpr ?_ | refine wp_tand.mpr ?_ | refine wp_tor.mpr ?_ | refine wp_vand.mpr ?_ | refine wp_vor.mpr ?_ | refine wp_vnot.mpr ?_ | refine wp_vif.mpr ?_ | refine wp_tyes.mpr ?_ | refine wp_mM.mpr ?_ | refine wp_mneg.mpr ?_ | refine wp_mrevL.mpr ?_ | refine wp_mlenSet.mpr ?_ | refine wp_misi.mpr ?_ | refine wp_dkInt.mpr ?_ | refine wp_tCells.mpr ?_ | refine wp_iseq.mpr ?_ | refine wp_itup.mpr ?_ | refine wp_istr.mpr ?_ | refine wp_irng1.mpr ?_ | refine wp_defM.mpr ?_ | refine wp_starM.mpr ?_ | refine wp_mdisp.mpr ?_ | refine wp_sasg.mpr ?_) | (first | refine ⟨_, rfl, ?_⟩ | refine ⟨_, _, rfl, ?_⟩ | refine ⟨rfl, ?_⟩ | refine ⟨by (exact Nat.le_of_ble_eq_true rfl), ?_⟩ | refine ⟨_, by (first | rfl | exact dMod_ok (by (((try dsimp only); omega))) | exact dDiv_ok (by (((try dsimp only); omega))) (by (((try dsimp only); omega))) | exact dMul_r (by (((try dsimp only); omega))) (by (((try dsimp only); omega))) | exact dMul_l (by (((try dsimp only); omega))) (by (((try dsimp only); omega))) | assumption), ?_⟩ | refine ⟨_, _, rfl, by (exact Nat.le_of_ble_eq_true rfl), by (exact Nat.le_of_ble_eq_true rfl), ?_⟩))
    refine ⟨_, dIx_lst0, ?_⟩
    repeat (first | (with_reducible first | refine wp_sseq.mpr ?_ | refine wp_set.mpr ?_ | refine wp_sret.mpr ?_ | refine wp_sif.mpr ?_ | refine wp_snil.mpr ?_ | refine wp_sdrop.mpr ?_ | refine wp_sfor.mpr ?_ | refine wp_spar.mpr ?_ | refine wp_saug.mpr ?_ | refine wp_son.mpr ?_ | refine wp_sapp.mpr ?_ | refine wp_sDraws.mpr ?_ | refine wp_sPop.mpr ?_ | refine wp_sPush.mpr ?_ | refine wp_m2.mpr ?_ | refine wp_evarB.mpr ?_ | refine wp_evar.mpr ?_ | refine wp_cst.mpr ?_ | refine wp_mC.mpr ?_ | refine wp_acons.mpr ?_ | refine wp_anil.mpr ?_ | refine wp_callM.mpr ?_ | refine wp_kwM.mpr ?_ | refine wp_mtup.mpr ?_ | refine wp_mlst.mpr ?_ | refine wp_msl.mpr ?_ | refine wp_onone.mpr ?_ | refine wp_osome.mpr ?_ | refine wp_tst.mpr ?_ | refine wp_tru.mpr ?_ | refine wp_tnot.mpr ?_ | refine wp_tand.mpr ?_ | refine wp_tor.mpr ?_ | refine wp_vand.mpr ?_ | refine wp_vor.mpr ?_ | refine wp_vnot.mpr ?_ | refine wp_vif.mpr ?_ | refine wp_tyes.mpr ?_ | refine wp_mM.mpr ?_ | refine wp_mneg.mpr ?_ | refine wp_mrevL.mpr ?_ | refine wp_mlenSet.mpr ?_ | refine wp_misi.mpr ?_ | refine wp_dkInt.mpr ?_ | refine wp_tCells.mpr ?_ | refine wp_iseq.mpr ?_ | refine wp_itup.mpr ?_ | refine wp_istr.mpr ?_ | refine wp_irng1.mpr ?_ | refine wp_defM.mpr ?_ | refine wp_starM.mpr ?_ | refine wp_mdisp.mpr ?_ | refine wp_sasg.mpr ?_) | (first | refine ⟨_, rfl, ?_⟩ | refine ⟨_, _, rfl, ?_⟩ | refine ⟨rfl, ?_⟩ | refine ⟨by (exact Nat.le_of_ble_eq_true rfl), ?_⟩ | refine ⟨_, by (first | rfl | exact dMod_ok (by (((try dsimp only); omega))) | exact dDiv_ok (by (((try dsimp only); omega))) (by (((try dsimp only); omega))) | exact dMul_r (by (((try dsimp only); omega))) (by (((try dsimp only); omega))) | exact dMul_l (by (((try dsimp only); omega))) (by (((try dsimp only); omega))) | assumption), ?_⟩ | refine ⟨_, _, rfl, by (exact Nat.le_of_ble_eq_true rfl), by (exact Nat.le_of_ble_eq_true rfl), ?_⟩))
    refine ⟨_, dSl_to (Nat.le_trans hy (by decide)), ?_⟩
    exact hP M hM

/-! ### _law_five, delay -/
theorem five_ok {y : List Nat} {r : List (List Nat)} {w : Wd} {P : D → Wd → Prop} (hl : r.length ≤ 4) (hs : ∀ z ∈ y :: r, z.length ≤ 1000) (hP : ∀ m, Com y r m → P (tx (y.take m)) w) : Ok (m_l_five [.lst ((y :: r).map tx)] w) P := by
  unfold m_l_five g_l_five
  match r, hl, hs, hP with
  | [], _, hs, hP =>
    repeat (first | (with_reducible first | refine wp_sseq.mpr ?_ | refine wp_set.mpr ?_ | refine wp_sret.mpr ?_ | refine wp_sif.mpr ?_ | refine wp_snil.mpr ?_ | refine wp_sdrop.mpr ?_ | refine wp_sfor.mpr ?_ | refine wp_spar.mpr ?_ | refine wp_saug.mpr ?_ | refine wp_son.mpr ?_ | refine wp_sapp.mpr ?_ | refine wp_sDraws.mpr ?_ | refine wp_sPop.mpr ?_ | refine wp_sPush.mpr ?_ | refine wp_m2.mpr ?_ | refine wp_evarB.mpr ?_ | refine wp_evar.mpr ?_ | refine wp_cst.mpr ?_ | refine wp_mC.mpr ?_ | refine wp_acons.mpr ?_ | refine wp_anil.mpr ?_ | refine wp_callM.mpr ?_ | refine wp_kwM.mpr ?_ | refine wp_mtup.mpr ?_ | refine wp_mlst.mpr ?_ | refine wp_msl.mpr ?_ | refine wp_onone.mpr ?_ | refine wp_osome.mpr ?_ | refine wp_tst.mpr ?_ | refine wp_tru.mpr ?_ | refine wp_tnot.mpr ?_ | refine wp_tand.mpr ?_ | refine wp_tor.mpr ?_ | refine wp_vand.mpr ?_ | refine wp_vor.mpr ?_ | refine wp_vnot.mpr ?_ | refine wp_vif.mpr ?_ | refine wp_tyes.mpr ?_ | refine wp_mM.mpr ?_ | refine wp_mneg.mpr ?_ | refine wp_mrevL.mpr ?_ | refine wp_mlenSet.mpr ?_ | refine wp_misi.mpr ?_ | refine wp_dkInt.mpr ?_ | refine wp_tCells.mpr ?_ | refine wp_iseq.mpr ?_ | refine wp_itup.mpr ?_ | refine wp_istr.mpr ?_ | refine wp_irng1.mpr ?_ | refine wp_defM.mpr ?_ | refine wp_starM.mpr ?_ | refine wp_mdisp.mpr ?_ | refine wp_sasg.mpr ?_) | (first | refine ⟨_, rfl, ?_⟩ | refine ⟨_, _, rfl, ?_⟩ | refine ⟨rfl, ?_⟩ | refine ⟨by (exact Nat.le_of_ble_eq_true rfl), ?_⟩ | refine ⟨_, by (first | rfl | exact dMod_ok (by (((try dsimp only); omega))) | exact dDiv_ok (by (((try dsimp only); omega))) (by (((try dsimp only); omega))) | exact dMul_r (by (((try dsimp only); omega))) (by (((try dsimp only); omega))) | exact dMul_l (by (((try dsimp only); omega))) (by (((try dsimp only); omega))) | assumption), ?_⟩ | refine ⟨_, _, rfl, by (exact Nat.le_of_ble_eq_true rfl), by (exact Nat.le_of_ble_eq_true rfl), ?_⟩))
    refine ⟨fun h => ?_, fun h => absurd h (by simp)⟩
    repeat (first | (with_reducible first | refine wp_sseq.mpr ?_ | refine wp_set.mpr ?_ | refine wp_sret.mpr ?_ | refine wp_sif.mpr ?_ | refine wp_snil.mpr ?_ | refine wp_sdrop.mpr ?_ | refine wp_sfor.mpr ?_ | refine wp_spar.mpr ?_ | refine wp_saug.mpr ?_ | refine wp_son.mpr ?_ | refine wp_sapp.mpr ?_ | refine wp_sDraws.mpr ?_ | refine wp_sPop.mpr ?_ | refine wp_sPush.mpr ?_ | refine wp_m2.mpr ?_ | refine wp_evarB.mpr ?_ | refine wp_evar.mpr ?_ | refine wp_cst.mpr ?_ | refine wp_mC.mpr ?_ | refine wp_acons.mpr ?_ | refine wp_anil.mpr ?_ | refine wp_callM.mpr ?_ | refine wp_kwM.mpr ?_ | refine wp_mtup.mpr ?_ | refine wp_mlst.mpr ?_ | refine wp_msl.mpr ?_ | refine wp_onone.mpr ?_ | refine wp_osome.mpr ?_ | refine wp_tst.mpr ?_ | refine wp_tru.mpr ?_ | refine wp_tnot.mpr ?_ | refine wp_tand.mpr ?_ | refine wp_tor.mpr ?_ | refine wp_vand.mpr ?_ | refine wp_vor.mpr ?_ | refine wp_vnot.mpr ?_ | refine wp_vif.mpr ?_ | refine wp_tyes.mpr ?_ | refine wp_mM.mpr ?_ | refine wp_mneg.mpr ?_ | refine wp_mrevL.mpr ?_ | refine wp_mlenSet.mpr ?_ | refine wp_misi.mpr ?_ | refine wp_dkInt.mpr ?_ | refine wp_tCells.mpr ?_ | refine wp_iseq.mpr ?_ | refine wp_itup.mpr ?_ | refine wp_istr.mpr ?_ | refine wp_irng1.mpr ?_ | refine wp_defM.mpr ?_ | refine wp_starM.mpr ?_ | refine wp_mdisp.mpr ?_ | refine wp_sasg.mpr ?_) | (first | refine ⟨_, rfl, ?_⟩ | refine ⟨_, _, rfl, ?_⟩ | refine ⟨rfl, ?_⟩ | refine ⟨by (exact Nat.le_of_ble_eq_true rfl), ?_⟩ | refine ⟨_, by (first | rfl | exact dMod_ok (by (((try dsimp only); omega))) | exact dDiv_ok (by (((try dsimp only); omega))) (by (((try dsimp only); omega))) | exact dMul_r (by (((try dsimp only); omega))) (by (((try dsimp only); omega))) | exact dMul_l (by (((try dsimp only); omega))) (by (((try dsimp only); omega))) | assumption), ?_⟩ | refine ⟨_, _, rfl, by (exact Nat.le_of_ble_eq_true rfl), by (exact Nat.le_of_ble_eq_true rfl), ?_⟩))
    exact prefix_ok hs hP
  | [a], _, hs, hP =>
    repeat (first | (with_reducible first | refine wp_sseq.mpr ?_ | refine wp_set.mpr ?_ | refine wp_sret.mpr ?_ | refine wp_sif.mpr ?_ | refine wp_snil.mpr ?_ | refine wp_sdrop.mpr ?_ | refine wp_sfor.mpr ?_ | refine wp_spar.mpr ?_ | refine wp_saug.mpr ?_ | refine wp_son.mpr ?_ | refine wp_sapp.mpr ?_ | refine wp_sDraws.mpr ?_ | refine wp_sPop.mpr ?_ | refine wp_sPush.mpr ?_ | refine wp_m2.mpr ?_ | refine wp_evarB.mpr ?_ | refine wp_evar.mpr ?_ | refine wp_cst.mpr ?_ | refine wp_mC.mpr ?_ | refine wp_acons.mpr ?_ | refine wp_anil.mpr ?_ | refine wp_callM.mpr ?_ | refine wp_kwM.mpr ?_ | refine wp_mtup.mpr ?_ | refine wp_mlst.mpr ?_ | refine wp_msl.mpr ?_ | refine wp_onone.mpr ?_ | refine wp_osome.mpr ?_ | refine wp_tst.mpr ?_ | refine wp_tru.mpr ?_ | refine wp_tnot.mpr ?_ | refine wp_tand.mpr ?_ | refine wp_tor.mpr ?_ | refine wp_vand.mpr ?_ | refine wp_vor.mpr ?_ | refine wp_vnot.mpr ?_ | refine wp_vif.mpr ?_ | refine wp_tyes.mpr ?_ | refine wp_mM.mpr ?_ | refine wp_mneg.mpr ?_ | refine wp_mrevL.mpr ?_ | refine wp_mlenSet.mpr ?_ | refine wp_misi.mpr ?_ | refine wp_dkInt.mpr ?_ | refine wp_tCells.mpr ?_ | refine wp_iseq.mpr ?_ | refine wp_itup.mpr ?_ | refine wp_istr.mpr ?_ | refine wp_irng1.mpr ?_ | refine wp_defM.mpr ?_ | refine wp_starM.mpr ?_ | refine wp_mdisp.mpr ?_ | refine wp_sasg.mpr ?_) | (first | refine ⟨_, rfl, ?_⟩ | refine ⟨_, _, rfl, ?_⟩ | refine ⟨rfl, ?_⟩ | refine ⟨by (exact Nat.le_of_ble_eq_true rfl), ?_⟩ | refine ⟨_, by (first | rfl | exact dMod_ok (by (((try dsimp only); omega))) | exact dDiv_ok (by (((try dsimp only); omega))) (by (((try dsimp only); omega))) | exact dMul_r (by (((try dsimp only); omega))) (by (((try dsimp only); omega))) | exact dMul_l (by (((try dsimp only); omega))) (by (((try dsimp only); omega))) | assumption), ?_⟩ | refine ⟨_, _, rfl, by (exact Nat.le_of_ble_eq_true rfl), by (exact Nat.le_of_ble_eq_true rfl), ?_⟩))
    refine ⟨fun h => absurd h (by simp), fun h => ?_⟩
    repeat (first | (with_reducible first | refine wp_sseq.mpr ?_ | refine wp_set.mpr ?_ | refine wp_sret.mpr ?_ | refine wp_sif.mpr ?_ | refine wp_snil.mpr ?_ | refine wp_sdrop.mpr ?_ | refine wp_sfor.mpr ?_ | refine wp_spar.mpr ?_ | refine wp_saug.mpr ?_ | refine wp_son.mpr ?_ | refine wp_sapp.mpr ?_ | refine wp_sDraws.mpr ?_ | refine wp_sPop.mpr ?_ | refine wp_sPush.mpr ?_ | refine wp_m2.mpr ?_ | refine wp_evarB.mpr ?_ | refine wp_evar.mpr ?_ | refine wp_cst.mpr ?_ | refine wp_mC.mpr ?_ | refine wp_acons.mpr ?_ | refine wp_anil.mpr ?_ | refine wp_callM.mpr ?_ | refine wp_kwM.mpr ?_ | refine wp_mtup.mpr ?_ | refine wp_mlst.mpr ?_ | refine wp_msl.mpr ?_ | refine wp_onone.mpr ?_ | refine wp_osome.mpr ?_ | refine wp_tst.mpr ?_ | refine wp_tru.mpr ?_ | refine wp_tnot.mpr ?_ | refine wp_tand.mpr ?_ | refine wp_tor.mpr ?_ | refine wp_vand.mpr ?_ | refine wp_vor.mpr ?_ | refine wp_vnot.mpr ?_ | refine wp_vif.mpr ?_ | refine wp_tyes.mpr ?_ | refine wp_mM.mpr ?_ | refine wp_mneg.mpr ?_ | refine wp_mrevL.mpr ?_ | refine wp_mlenSet.mpr ?_ | refine wp_misi.mpr ?_ | refine wp_dkInt.mpr ?_ | refine wp_tCells.mpr ?_ | refine wp_iseq.mpr ?_ | refine wp_itup.mpr ?_ | refine wp_istr.mpr ?_ | refine wp_irng1.mpr ?_ | refine wp_defM.mpr ?_ | refine wp_starM.mpr ?_ | refine wp_mdisp.mpr ?_ | refine wp_sasg.mpr ?_) | (first | refine ⟨_, rfl, ?_⟩ | refine ⟨_, _, rfl, ?_⟩ | refine ⟨rfl, ?_⟩ | refine ⟨by (exact Nat.le_of_ble_eq_true rfl), ?_⟩ | refine ⟨_, by (first | rfl | exact dMod_ok (by (((try dsimp only); omega))) | exact dDiv_ok (by (((try dsimp only); omega))) (by (((try dsimp only); omega))) | exact dMul_r (by (((try dsimp only); omega))) (by (((try dsimp only); omega))) | exact dMul_l (by (((try dsimp only); omega))) (by (((try dsimp only); omega))) | assumption), ?_⟩ | refine ⟨_, _, rfl, by (exact Nat.le_of_ble_eq_true rfl), by (exact Nat.le_of_ble_eq_true rfl), ?_⟩))
    refine ⟨fun h => ?_, fun h => absurd h (by simp)⟩
    repeat (first | (with_reducible first | refine wp_sseq.mpr ?_ | refine wp_set.mpr ?_ | refine wp_sret.mpr ?_ | refine wp_sif.mpr ?_ | refine wp_snil.mpr ?_ | refine wp_sdrop.mpr ?_ | refine wp_sfor.mpr ?_ | refine wp_spar.mpr ?_ | refine wp_saug.mpr ?_ | refine wp_son.mpr ?_ | refine wp_sapp.mpr ?_ | refine wp_sDraws.mpr ?_ | refine wp_sPop.mpr ?_ | refine wp_sPush.mpr ?_ | refine wp_m2.mpr ?_ | refine wp_evarB.mpr ?_ | refine wp_evar.mpr ?_ | refine wp_cst.mpr ?_ | refine wp_mC.mpr ?_ | refine wp_acons.mpr ?_ | refine wp_anil.mpr ?_ | refine wp_callM.mpr ?_ | refine wp_kwM.mpr ?_ | refine wp_mtup.mpr ?_ | refine wp_mlst.mpr ?_ | refine wp_msl.mpr ?_ | refine wp_onone.mpr ?_ | refine wp_osome.mpr ?_ | refine wp_tst.mpr ?_ | refine wp_tru.mpr ?_ | refine wp_tnot.mpr ?_ | refine wp_tand.mpr ?_ | refine wp_tor.mpr ?_ | refine wp_vand.mpr ?_ | refine wp_vor.mpr ?_ | refine wp_vnot.mpr ?_ | refine wp_vif.mpr ?_ | refine wp_tyes.mpr ?_ | refine wp_mM.mpr ?_ | refine wp_mneg.mpr ?_ | refine wp_mrevL.mpr ?_ | refine wp_mlenSet.mpr ?_ | refine wp_misi.mpr ?_ | refine wp_dkInt.mpr ?_ | refine wp_tCells.mpr ?_ | refine wp_iseq.mpr ?_ | refine wp_itup.mpr ?_ | refine wp_istr.mpr ?_ | refine wp_irng1.mpr ?_ | refine wp_defM.mpr ?_ | refine wp_starM.mpr ?_ | refine wp_mdisp.mpr ?_ | refine wp_sasg.mpr ?_) | (first | refine ⟨_, rfl, ?_⟩ | refine ⟨_, _, rfl, ?_⟩ | refine ⟨rfl, ?_⟩ | refine ⟨by (exact Nat.le_of_ble_eq_true rfl), ?_⟩ | refine ⟨_, by (first | rfl | exact dMod_ok (by (((try dsimp only); omega))) | exact dDiv_ok (by (((try dsimp only); omega))) (by (((try dsimp only); omega))) | exact dMul_r (by (((try dsimp only); omega))) (by (((try dsimp only); omega))) | exact dMul_l (by (((try dsimp only); omega))) (by (((try dsimp only); omega))) | assumption), ?_⟩ | refine ⟨_, _, rfl, by (exact Nat.le_of_ble_eq_true rfl), by (exact Nat.le_of_ble_eq_true rfl), ?_⟩))
    exact prefix_ok hs hP
  | [a, b], _, hs, hP =>
    repeat (first | (with_reducible first | refine wp_sseq.mpr ?_ | refine wp_set.mpr ?_ | refine wp_sret.mpr ?_ | refine wp_sif.mpr ?_ | refine wp_snil.mpr ?_ | refine wp_sdrop.mpr ?_ | refine wp_sfor.mpr ?_ | refine wp_spar.mpr ?_ | refine wp_saug.mpr ?_ | refine wp_son.mpr ?_ | refine wp_sapp.mpr ?_ | refine wp_sDraws.mpr ?_ | refine wp_sPop.mpr ?_ | refine wp_sPush.mpr ?_ | refine wp_m2.mpr ?_ | refine wp_evarB.mpr ?_ | refine wp_evar.mpr ?_ | refine wp_cst.mpr ?_ | refine wp_mC.mpr ?_ | refine wp_acons.mpr ?_ | refine wp_anil.mpr ?_ | refine wp_callM.mpr ?_ | refine wp_kwM.mpr ?_ | refine wp_mtup.mpr ?_ | refine wp_mlst.mpr ?_ | refine wp_msl.mpr ?_ | refine wp_onone.mpr ?_ | refine wp_osome.mpr ?_ | refine wp_tst.mpr ?_ | refine wp_tru.mpr ?_ | refine wp_tnot.mpr ?_ | refine wp_tand.mpr ?_ | refine wp_tor.mpr ?_ | refine wp_vand.mpr ?_ | refine wp_vor.mpr ?_ | refine wp_vnot.mpr ?_ | refine wp_vif.mpr ?_ | refine wp_tyes.mpr ?_ | refine wp_mM.mpr ?_ | refine wp_mneg.mpr ?_ | refine wp_mrevL.mpr ?_ | refine wp_mlenSet.mpr ?_ | refine wp_misi.mpr ?_ | refine wp_dkInt.mpr ?_ | refine wp_tCells.mpr ?_ | refine wp_iseq.mpr ?_ | refine wp_itup.mpr ?_ | refine wp_istr.mpr ?_ | refine wp_irng1.mpr ?_ | refine wp_defM.mpr ?_ | refine wp_starM.mpr ?_ | refine wp_mdisp.mpr ?_ | refine wp_sasg.mpr ?_) | (first | refine ⟨_, rfl, ?_⟩ | refine ⟨_, _, rfl, ?_⟩ | refine ⟨rfl, ?_⟩ | refine ⟨by (exact Nat.le_of_ble_eq_true rfl), ?_⟩ | refine ⟨_, by (first | rfl | exact dMod_ok (by (((try dsimp only); omega))) | exact dDiv_ok (by (((try dsimp only); omega))) (by (((try dsimp only); omega))) | exact dMul_r (by (((try dsimp only); omega))) (by (((try dsimp only); omega))) | exact dMul_l (by (((try dsimp only); omega))) (by (((try dsimp only); omega))) | assumption), ?_⟩ | refine ⟨_, _, rfl, by (exact Nat.le_of_ble_eq_true rfl), by (exact Nat.le_of_ble_eq_true rfl), ?_⟩))
    refine ⟨fun h => absurd h (by simp), fun h => ?_⟩
    repeat (first | (with_reducible first | refine wp_sseq.mpr ?_ | refine wp_set.mpr ?_ | refine wp_sret.mpr ?_ | refine wp_sif.mpr ?_ | refine wp_snil.mpr ?_ | refine wp_sdrop.mpr ?_ | refine wp_sfor.mpr ?_ | refine wp_spar.mpr ?_ | refine wp_saug.mpr ?_ | refine wp_son.mpr ?_ | refine wp_sapp.mpr ?_ | refine wp_sDraws.mpr ?_ | refine wp_sPop.mpr ?_ | refine wp_sPush.mpr ?_ | refine wp_m2.mpr ?_ | refine wp_evarB.mpr ?_ | refine wp_evar.mpr ?_ | refine wp_cst.mpr ?_ | refine wp_mC.mpr ?_ | refine wp_acons.mpr ?_ | refine wp_anil.mpr ?_ | refine wp_callM.mpr ?_ | refine wp_kwM.mpr ?_ | refine wp_mtup.mpr ?_ | refine wp_mlst.mpr ?_ | refine wp_msl.mpr ?_ | refine wp_onone.mpr ?_ | refine wp_osome.mpr ?_ | refine wp_tst.mpr ?_ | refine wp_tru.mpr ?_ | refine wp_tnot.mpr ?_ | refine wp_tand.mpr ?_ | refine wp_tor.mpr ?_ | refine wp_vand.mpr ?_ | refine wp_vor.mpr ?_ | refine wp_vnot.mpr ?_ | refine wp_vif.mpr ?_ | refine wp_tyes.mpr ?_ | refine wp_mM.mpr ?_ | refine wp_mneg.mpr ?_ | refine wp_mrevL.mpr ?_ | refine wp_mlenSet.mpr ?_ | refine wp_misi.mpr ?_ | refine wp_dkInt.mpr ?_ | refine wp_tCells.mpr ?_ | refine wp_iseq.mpr ?_ | refine wp_itup.mpr ?_ | refine wp_istr.mpr ?_ | refine wp_irng1.mpr ?_ | refine wp_defM.mpr ?_ | refine wp_starM.mpr ?_ | refine wp_mdisp.mpr ?_ | refine wp_sasg.mpr ?_) | (first | refine ⟨_, rfl, ?_⟩ | refine ⟨_, _, rfl, ?_⟩ | refine ⟨rfl, ?_⟩ | refine ⟨by (exact Nat.le_of_ble_eq_true rfl), ?_⟩ | refine ⟨_, by (first | rfl | exact dMod_ok (by (((try dsimp only); omega))) | exact dDiv_ok (by (((try dsimp only); omega))) (by (((try dsimp only); omega))) | exact dMul_r (by (((try dsimp only); omega))) (by (((try dsimp only); omega))) | exact dMul_l (by (((try dsimp only); omega))) (by (((try dsimp only); omega))) | assumption), ?_⟩ | refine ⟨_, _, rfl, by (exact Nat.le_of_ble_eq_true rfl), by (exact Nat.le_of_ble_eq_true rfl), ?_⟩))
    refine ⟨fun h => absurd h (by simp), fun h => ?_⟩
    repeat (first | (with_reducible first | refine wp_sseq.mpr ?_ | refine wp_set.mpr ?_ | refine wp_sret.mpr ?_ | refine wp_sif.mpr ?_ | refine wp_snil.mpr ?_ | refine wp_sdrop.mpr ?_ | refine wp_sfor.mpr ?_ | refine wp_spar.mpr ?_ | refine wp_saug.mpr ?_ | refine wp_son.mpr ?_ | refine wp_sapp.mpr ?_ | refine wp_sDraws.mpr ?_ | refine wp_sPop.mpr ?_ | refine wp_sPush.mpr ?_ | refine wp_m2.mpr ?_ | refine wp_evarB.mpr ?_ | refine wp_evar.mpr ?_ | refine wp_cst.mpr ?_ | refine wp_mC.mpr ?_ | refine wp_acons.mpr ?_ | refine wp_anil.mpr ?_ | refine wp_callM.mpr ?_ | refine wp_kwM.mpr ?_ | refine wp_mtup.mpr ?_ | refine wp_mlst.mpr ?_ | refine wp_msl.mpr ?_ | refine wp_onone.mpr ?_ | refine wp_osome.mpr ?_ | refine wp_tst.mpr ?_ | refine wp_tru.mpr ?_ | refine wp_tnot.mpr ?_ | refine wp_tand.mpr ?_ | refine wp_tor.mpr ?_ | refine wp_vand.mpr ?_ | refine wp_vor.mpr ?_ | refine wp_vnot.mpr ?_ | refine wp_vif.mpr ?_ | refine wp_tyes.mpr ?_ | refine wp_mM.mpr ?_ | refine wp_mneg.mpr ?_ | refine wp_mrevL.mpr ?_ | refine wp_mlenSet.mpr ?_ | refine wp_misi.mpr ?_ | refine wp_dkInt.mpr ?_ | refine wp_tCells.mpr ?_ | refine wp_iseq.mpr ?_ | refine wp_itup.mpr ?_ | refine wp_istr.mpr ?_ | refine wp_irng1.mpr ?_ | refine wp_defM.mpr ?_ | refine wp_starM.mpr ?_ | refine wp_mdisp.mpr ?_ | refine wp_sasg.mpr ?_) | (first | refine ⟨_, rfl, ?_⟩ | refine ⟨_, _, rfl, ?_⟩ | refine ⟨rfl, ?_⟩ | refine ⟨by (exact Nat.le_of_ble_eq_true rfl), ?_⟩ | refine ⟨_, by (first | rfl | exact dMod_ok (by (((try dsimp only); omega))) | exact dDiv_ok (by (((try dsimp only); omega))) (by (((try dsimp only); omega))) | exact dMul_r (by (((try dsimp only); omega))) (by (((try dsimp only); omega))) | exact dMul_l (by (((try dsimp only); omega))) (by (((try dsimp only); omega))) | assumption), ?_⟩ | refine ⟨_, _, rfl, by (exact Nat.le_of_ble_eq_true rfl), by (exact Nat.le_of_ble_eq_true rfl), ?_⟩))
    refine ⟨fun h => ?_, fun h => absurd h (by simp)⟩
    repeat (first | (with_reducible first | refine wp_sseq.mpr ?_ | refine wp_set.mpr ?_ | refine wp_sret.mpr ?_ | refine wp_sif.mpr ?_ | refine wp_snil.mpr ?_ | refine wp_sdrop.mpr ?_ | refine wp_sfor.mpr ?_ | refine wp_spar.mpr ?_ | refine wp_saug.mpr ?_ | refine wp_son.mpr ?_ | refine wp_sapp.mpr ?_ | refine wp_sDraws.mpr ?_ | refine wp_sPop.mpr ?_ | refine wp_sPush.mpr ?_ | refine wp_m2.mpr ?_ | refine wp_evarB.mpr ?_ | refine wp_evar.mpr ?_ | refine wp_cst.mpr ?_ | refine wp_mC.mpr ?_ | refine wp_acons.mpr ?_ | refine wp_anil.mpr ?_ | refine wp_callM.mpr ?_ | refine wp_kwM.mpr ?_ | refine wp_mtup.mpr ?_ | refine wp_mlst.mpr ?_ | refine wp_msl.mpr ?_ | refine wp_onone.mpr ?_ | refine wp_osome.mpr ?_ | refine wp_tst.mpr ?_ | refine wp_tru.mpr ?_ | refine wp_tnot.mpr ?_ | refine wp_tand.mpr ?_ | refine wp_tor.mpr ?_ | refine wp_vand.mpr ?_ | refine wp_vor.mpr ?_ | refine wp_vnot.mpr ?_ | refine wp_vif.mpr ?_ | refine wp_tyes.mpr ?_ | refine wp_mM.mpr ?_ | refine wp_mneg.mpr ?_ | refine wp_mrevL.mpr ?_ | refine wp_mlenSet.mpr ?_ | refine wp_misi.mpr ?_ | refine wp_dkInt.mpr ?_ | refine wp_tCells.mpr ?_ | refine wp_iseq.mpr ?_ | refine wp_itup.mpr ?_ | refine wp_istr.mpr ?_ | refine wp_irng1.mpr ?_ | refine wp_defM.mpr ?_ | refine wp_starM.mpr ?_ | refine wp_mdisp.mpr ?_ | refine wp_sasg.mpr ?_) | (first | refine ⟨_, rfl, ?_⟩ | refine ⟨_, _, rfl, ?_⟩ | refine ⟨rfl, ?_⟩ | refine ⟨by (exact Nat.le_of_ble_eq_true rfl), ?_⟩ | refine ⟨_, by (first | rfl | exact dMod_ok (by (((try dsimp only); omega))) | exact dDiv_ok (by (((try dsimp only); omega))) (by (((try dsimp only); omega))) | exact dMul_r (by (((try dsimp only); omega))) (by (((try dsimp only); omega))) | exact dMul_l (by (((try dsimp only); omega))) (by (((try dsimp only); omega))) | assumption), ?_⟩ | refine ⟨_, _, rfl, by (exact Nat.le_of_ble_eq_true rfl), by (exact Nat.le_of_ble_eq_true rfl), ?_⟩))
    exact prefix_ok hs hP
  | [a, b, c], _, hs, hP =>
    repeat (first | (with_reducible first | refine wp_sseq.mpr ?_ | refine wp_set.mpr ?_ | refine wp_sret.mpr ?_ | refine wp_sif.mpr ?_ | refine wp_snil.mpr ?_ | refine wp_sdrop.mpr ?_ | refine wp_sfor.mpr ?_ | refine wp_spar.mpr ?_ | refine wp_saug.mpr ?_ | refine wp_son.mpr ?_ | refine wp_sapp.mpr ?_ | refine wp_sDraws.mpr ?_ | refine wp_sPop.mpr ?_ | refine wp_sPush.mpr ?_ | refine wp_m2.mpr ?_ | refine wp_evarB.mpr ?_ | refine wp_evar.mpr ?_ | refine wp_cst.mpr ?_ | refine wp_mC.mpr ?_ | refine wp_acons.mpr ?_ | refine wp_anil.mpr ?_ | refine wp_callM.mpr ?_ | refine wp_kwM.mpr ?_ | refine wp_mtup.mpr ?_ | refine wp_mlst.mpr ?_ | refine wp_msl.mpr ?_ | refine wp_onone.mpr ?_ | refine wp_osome.mpr ?_ | refine wp_tst.mpr ?_ | refine wp_tru.mpr ?_ | refine wp_tnot.mpr ?_ | refine wp_tand.mpr ?_ | refine wp_tor.mpr ?_ | refine wp_vand.mpr ?_ | refine wp_vor.mpr ?_ | refine wp_vnot.mpr ?_ | refine wp_vif.mpr ?_ | refine wp_tyes.mpr ?_ | refine wp_mM.mpr ?_ | refine wp_mneg.mpr ?_ | refine wp_mrevL.mpr ?_ | refine wp_mlenSet.mpr ?_ | refine wp_misi.mpr ?_ | refine wp_dkInt.mpr ?_ | refine wp_tCells.mpr ?_ | refine wp_iseq.mpr ?_ | refine wp_itup.mpr ?_ | refine wp_istr.mpr ?_ | refine wp_irng1.mpr ?_ | refine wp_defM.mpr ?_ | refine wp_starM.mpr ?_ | refine wp_mdisp.mpr ?_ | refine wp_sasg.mpr ?_) | (first | refine ⟨_, rfl, ?_⟩ | refine ⟨_, _, rfl, ?_⟩ | refine ⟨rfl, ?_⟩ | refine ⟨by (exact Nat.le_of_ble_eq_true rfl), ?_⟩ | refine ⟨_, by (first | rfl | exact dMod_ok (by (((try dsimp only); omega))) | exact dDiv_ok (by (((try dsimp only); omega))) (by (((try dsimp only); omega))) | exact dMul_r (by (((try dsimp only); omega))) (by (((try dsimp only); omega))) | exact dMul_l (by (((try dsimp only); omega))) (by (((try dsimp only); omega))) | assumption), ?_⟩ | refine ⟨_, _, rfl, by (exact Nat.le_of_ble_eq_true rfl), by (exact Nat.le_of_ble_eq_true rfl), ?_⟩))
    refine ⟨fun h => absurd h (by simp), fun h => ?_⟩
    repeat (first | (with_reducible first | refine wp_sseq.mpr ?_ | refine wp_set.mpr ?_ | refine wp_sret.mpr ?_ | refine wp_sif.mpr ?_ | refine wp_snil.mpr ?_ | refine wp_sdrop.mpr ?_ | refine wp_sfor.mpr ?_ | refine wp_spar.mpr ?_ | refine wp_saug.mpr ?_ | refine wp_son.mpr ?_ | refine wp_sapp.mpr ?_ | refine wp_sDraws.mpr ?_ | refine wp_sPop.mpr ?_ | refine wp_sPush.mpr ?_ | refine wp_m2.mpr ?_ | refine wp_evarB.mpr ?_ | refine wp_evar.mpr ?_ | refine wp_cst.mpr ?_ | refine wp_mC.mpr ?_ | refine wp_acons.mpr ?_ | refine wp_anil.mpr ?_ | refine wp_callM.mpr ?_ | refine wp_kwM.mpr ?_ | refine wp_mtup.mpr ?_ | refine wp_mlst.mpr ?_ | refine wp_msl.mpr ?_ | refine wp_onone.mpr ?_ | refine wp_osome.mpr ?_ | refine wp_tst.mpr ?_ | refine wp_tru.mpr ?_ | refine wp_tnot.mpr ?_ | refine wp_tand.mpr ?_ | refine wp_tor.mpr ?_ | refine wp_vand.mpr ?_ | refine wp_vor.mpr ?_ | refine wp_vnot.mpr ?_ | refine wp_vif.mpr ?_ | refine wp_tyes.mpr ?_ | refine wp_mM.mpr ?_ | refine wp_mneg.mpr ?_ | refine wp_mrevL.mpr ?_ | refine wp_mlenSet.mpr ?_ | refine wp_misi.mpr ?_ | refine wp_dkInt.mpr ?_ | refine wp_tCells.mpr ?_ | refine wp_iseq.mpr ?_ | refine wp_itup.mpr ?_ | refine wp_istr.mpr ?_ | refine wp_irng1.mpr ?_ | refine wp_defM.mpr ?_ | refine wp_starM.mpr ?_ | refine wp_mdisp.mpr ?_ | refine wp_sasg.mpr ?_) | (first | refine ⟨_, rfl, ?_⟩ | refine ⟨_, _, rfl, ?_⟩ | refine ⟨rfl, ?_⟩ | refine ⟨by (exact Nat.le_of_ble_eq_true rfl), ?_⟩ | refine ⟨_, by (first | rfl | exact dMod_ok (by (((try dsimp only); omega))) | exact dDiv_ok (by (((try dsimp only); omega))) (by (((try dsimp only); omega))) | exact dMul_r (by (((try dsimp only); omega))) (by (((try dsimp only); omega))) | exact dMul_l (by (((try dsimp only); omega))) (by (((try dsimp only); omega))) | assumption), ?_⟩ | refine ⟨_, _, rfl, by (exact Nat.le_of_ble_eq_true rfl), by (exact Nat.le_of_ble_eq_true rfl), ?_⟩))
    refine ⟨fun h => absurd h (by simp), fun h => ?_⟩
    repeat (first | (with_reducible first | refine wp_sseq.mpr ?_ | refine wp_set.mpr ?_ | refine wp_sret.mpr ?_ | refine wp_sif.mpr ?_ | refine wp_snil.mpr ?_ | refine wp_sdrop.mpr ?_ | refine wp_sfor.mpr ?_ | refine wp_spar.mpr ?_ | refine wp_saug.mpr ?_ | refine wp_son.mpr ?_ | refine wp_sapp.mpr ?_ | refine wp_sDraws.mpr ?_ | refine wp_sPop.mpr ?_ | refine wp_sPush.mpr ?_ | refine wp_m2.mpr ?_ | refine wp_evarB.mpr ?_ | refine wp_evar.mpr ?_ | refine wp_cst.mpr ?_ | refine wp_mC.mpr ?_ | refine wp_acons.mpr ?_ | refine wp_anil.mpr ?_ | refine wp_callM.mpr ?_ | refine wp_kwM.mpr ?_ | refine wp_mtup.mpr ?_ | refine wp_mlst.mpr ?_ | refine wp_msl.mpr ?_ | refine wp_onone.mpr ?_ | refine wp_osome.mpr ?_ | refine wp_tst.mpr ?_ | refine wp_tru.mpr ?_ | refine wp_tnot.mpr ?_ | refine wp_tand.mpr ?_ | refine wp_tor.mpr ?_ | refine wp_vand.mpr ?_ | refine wp_vor.mpr ?_ | refine wp_vnot.mpr ?_ | refine wp_vif.mpr ?_ | refine wp_tyes.mpr ?_ | refine wp_mM.mpr ?_ | refine wp_mneg.mpr ?_ | refine wp_mrevL.mpr ?_ | refine wp_mlenSet.mpr ?_ | refine wp_misi.mpr ?_ | refine wp_dkInt.mpr ?_ | refine wp_tCells.mpr ?_ | refine wp_iseq.mpr ?_ | refine wp_itup.mpr ?_ | refine wp_istr.mpr ?_ | refine wp_irng1.mpr ?_ | refine wp_defM.mpr ?_ | refine wp_starM.mpr ?_ | refine wp_mdisp.mpr ?_ | refine wp_sasg.mpr ?_) | (first | refine ⟨_, rfl, ?_⟩ | refine ⟨_, _, rfl, ?_⟩ | refine ⟨rfl, ?_⟩ | refine ⟨by (exact Nat.le_of_ble_eq_true rfl), ?_⟩ | refine ⟨_, by (first | rfl | exact dMod_ok (by (((try dsimp only); omega))) | exact dDiv_ok (by (((try dsimp only); omega))) (by (((try dsimp only); omega))) | exact dMul_r (by (((try dsimp only); omega))) (by (((try dsimp only); omega))) | exact dMul_l (by (((try dsimp only); omega))) (by (((try dsimp only); omega))) | assumption), ?_⟩ | refine ⟨_, _, rfl, by (exact Nat.le_of_ble_eq_true rfl), by (exact Nat.le_of_ble_eq_true rfl), ?_⟩))
    refine ⟨fun h => absurd h (by simp), fun h => ?_⟩
    repeat (first | (with_reducible first | refine wp_sseq.mpr ?_ | refine wp_set.mpr ?_ | refine wp_sret.mpr ?_ | refine wp_sif.mpr ?_ | refine wp_snil.mpr ?_ | refine wp_sdrop.mpr ?_ | refine wp_sfor.mpr ?_ | refine wp_spar.mpr ?_ | refine wp_saug.mpr ?_ | refine wp_son.mpr ?_ | refine wp_sapp.mpr ?_ | refine wp_sDraws.mpr ?_ | refine wp_sPop.mpr ?_ | refine wp_sPush.mpr ?_ | refine wp_m2.mpr ?_ | refine wp_evarB.mpr ?_ | refine wp_evar.mpr ?_ | refine wp_cst.mpr ?_ | refine wp_mC.mpr ?_ | refine wp_acons.mpr ?_ | refine wp_anil.mpr ?_ | refine wp_callM.mpr ?_ | refine wp_kwM.mpr ?_ | refine wp_mtup.mpr ?_ | refine wp_mlst.mpr ?_ | refine wp_msl.mpr ?_ | refine wp_onone.mpr ?_ | refine wp_osome.mpr ?_ | refine wp_tst.mpr ?_ | refine wp_tru.mpr ?_ | refine wp_tnot.mpr ?_ | refine wp_tand.mpr ?_ | refine wp_tor.mpr ?_ | refine wp_vand.mpr ?_ | refine wp_vor.mpr ?_ | refine wp_vnot.mpr ?_ | refine wp_vif.mpr ?_ | refine wp_tyes.mpr ?_ | refine wp_mM.mpr ?_ | refine wp_mneg.mpr ?_ | refine wp_mrevL.mpr ?_ | refine wp_mlenSet.mpr ?_ | refine wp_misi.mpr ?_ | refine wp_dkInt.mpr ?_ | refine wp_tCells.mpr ?_ | refine wp_iseq.mpr ?_ | refine wp_itup.mpr ?_ | refine wp_istr.mpr ?_ | refine wp_irng1.mpr ?_ | refine wp_defM.mpr ?_ | refine wp_starM.mpr ?_ | refine wp_mdisp.mpr ?_ | refine wp_sasg.mpr ?_) | (first | refine ⟨_, rfl, ?_⟩ | refine ⟨_, _, rfl, ?_⟩ | refine ⟨rfl, ?_⟩ | refine ⟨by (exact Nat.le_of_ble_eq_true rfl), ?_⟩ | refine ⟨_, by (first | rfl | exact dMod_ok (by (((try dsimp only); omega))) | exact dDiv_ok (by (((try dsimp only); omega))) (by (((try dsimp only); omega))) | exact dMul_r (by (((try dsimp only); omega))) (by (((try dsimp only); omega))) | exact dMul_l (by (((try dsimp only); omega))) (by (((try dsimp only); omega))) | assumption), ?_⟩ | refine ⟨_, _, rfl, by (exact Nat.le_of_ble_eq_true rfl), by (exact Nat.le_of_ble_eq_true rfl), ?_⟩))
    refine ⟨fun h => ?_, fun h => absurd h (by simp)⟩
    repeat (first | (with_reducible first | refine wp_sseq.mpr ?_ | refine wp_set.mpr ?_ | refine wp_sret.mpr ?_ | refine wp_sif.mpr ?_ | refine wp_snil.mpr ?_ | refine wp_sdrop.mpr ?_ | refine wp_sfor.mpr ?_ | refine wp_spar.mpr ?_ | refine wp_saug.mpr ?_ | refine wp_son.mpr ?_ | refine wp_sapp.mpr ?_ | refine wp_sDraws.mpr ?_ | refine wp_sPop.mpr ?_ | refine wp_sPush.mpr ?_ | refine wp_m2.mpr ?_ | refine wp_evarB.mpr ?_ | refine wp_evar.mpr ?_ | refine wp_cst.mpr ?_ | refine wp_mC.mpr ?_ | refine wp_acons.mpr ?_ | refine wp_anil.mpr ?_ | refine wp_callM.mpr ?_ | refine wp_kwM.mpr ?_ | refine wp_mtup.mpr ?_ | refine wp_mlst.mpr ?_ | refine wp_msl.mpr ?_ | refine wp_onone.mpr ?_ | refine wp_osome.mpr ?_ | refine wp_tst.mpr ?_ | refine wp_tru.mpr ?_ | refine wp_tnot.mpr ?_ | refine wp_tand.mpr ?_ | refine wp_tor.mpr ?_ | refine wp_vand.mpr ?_ | refine wp_vor.mpr ?_ | refine wp_vnot.mpr ?_ | refine wp_vif.mpr ?_ | refine wp_tyes.mpr ?_ | refine wp_mM.mpr ?_ | refine wp_mneg.mpr ?_ | refine wp_mrevL.mpr ?_ | refine wp_mlenSet.mpr ?_ | refine wp_misi.mpr ?_ | refine wp_dkInt.mpr ?_ | refine wp_tCells.mpr ?_ | refine wp_iseq.mpr ?_ | refine wp_itup.mpr ?_ | refine wp_istr.mpr ?_ | refine wp_irng1.mpr ?_ | refine wp_defM.mpr ?_ | refine wp_starM.mpr ?_ | refine wp_mdisp.mpr ?_ | refine wp_sasg.mpr ?_) | (first | refine ⟨_, rfl, ?_⟩ | refine ⟨_, _, rfl, ?_⟩ | refine ⟨rfl, ?_⟩ | refine ⟨by (exact Nat.le_of_ble_eq_true rfl), ?_⟩ | refine ⟨_, by (first | rfl | exact dMod_ok (by (((try dsimp only); omega))) | exact dDiv_ok (by (((try dsimp only); omega))) (by (((try dsimp only); omega))) | exact dMul_r (by (((try dsimp only); omega))) (by (((try dsimp only); omega))) | exact dMul_l (by (((try dsimp only); omega))) (by (((try dsimp only); omega))) | assumption), ?_⟩ | refine ⟨_, _, rfl, by (exact Nat.le_of_ble_eq_true rfl), by (exact Nat.le_of_ble_eq_true rfl), ?_⟩))
    exact prefix_ok hs hP
  | [a, b, c, d], _, hs, hP =>
    repeat (first | (with_reducible first | refine wp_sseq.mpr ?_ | refine wp_set.mpr ?_ | refine wp_sret.mpr ?_ | refine wp_sif.mpr ?_ | refine wp_snil.mpr ?_ | refine wp_sdrop.mpr ?_ | refine wp_sfor.mpr ?_ | refine wp_spar.mpr ?_ | refine wp_saug.mpr ?_ | refine wp_son.mpr ?_ | refine wp_sapp.mpr ?_ | refine wp_sDraws.mpr ?_ | refine wp_sPop.mpr ?_ | refine wp_sPush.mpr ?_ | refine wp_m2.mpr ?_ | refine wp_evarB.mpr ?_ | refine wp_evar.mpr ?_ | refine wp_cst.mpr ?_ | refine wp_mC.mpr ?_ | refine wp_acons.mpr ?_ | refine wp_anil.mpr ?_ | refine wp_callM.mpr ?_ | refine wp_kwM.mpr ?_ | refine wp_mtup.mpr ?_ | refine wp_mlst.mpr ?_ | refine wp_msl.mpr ?_ | refine wp_onone.mpr ?_ | refine wp_osome.mpr ?_ | refine wp_tst.mpr ?_ | refine wp_tru.mpr ?_ | refine wp_tnot.mpr ?_ | refine wp_tand.mpr ?_ | refine wp_tor.mpr ?_ | refine wp_vand.mpr ?_ | refine wp_vor.mpr ?_ | refine wp_vnot.mpr ?_ | refine wp_vif.mpr ?_ | refine wp_tyes.mpr ?_ | refine wp_mM.mpr ?_ | refine wp_mneg.mpr ?_ | refine wp_mrevL.mpr ?_ | refine wp_mlenSet.mpr ?_ | refine wp_misi.mpr ?_ | refine wp_dkInt.mpr ?_ | refine wp_tCells.mpr ?_ | refine wp_iseq.mpr ?_ | refine wp_itup.mpr ?_ | refine wp_istr.mpr ?_ | refine wp_irng1.mpr ?_ | refine wp_defM.mpr ?_ | refine wp_starM.mpr ?_ | refine wp_mdisp.mpr ?_ | refine wp_sasg.mpr ?_) | (first | refine ⟨_, rfl, ?_⟩ | refine ⟨_, _, rfl, ?_⟩ | refine ⟨rfl, ?_⟩ | refine ⟨by (exact Nat.le_of_ble_eq_true rfl), ?_⟩ | refine ⟨_, by (first | rfl | exact dMod_ok (by (((try dsimp only); omega))) | exact dDiv_ok (by (((try dsimp only); omega))) (by (((try dsimp only); omega))) | exact dMul_r (by (((try dsimp only); omega))) (by (((try dsimp only); omega))) | exact dMul_l (by (((try dsimp only); omega))) (by (((try dsimp only); omega))) | assumption), ?_⟩ | refine ⟨_, _, rfl, by (exact Nat.le_of_ble_eq_true rfl), by (exact Nat.le_of_ble_eq_true rfl), ?_⟩))
    refine ⟨fun h => absurd h (by simp), fun h => ?_⟩
    repeat (first | (with_reducible first | refine wp_sseq.mpr ?_ | refine wp_set.mpr ?_ | refine wp_sret.mpr ?_ | refine wp_sif.mpr ?_ | refine wp_snil.mpr ?_ | refine wp_sdrop.mpr ?_ | refine wp_sfor.mpr ?_ | refine wp_spar.mpr ?_ | refine wp_saug.mpr ?_ | refine wp_son.mpr ?_ | refine wp_sapp.mpr ?_ | refine wp_sDraws.mpr ?_ | refine wp_sPop.mpr ?_ | refine wp_sPush.mpr ?_ | refine wp_m2.mpr ?_ | refine wp_evarB.mpr ?_ | refine wp_evar.mpr ?_ | refine wp_cst.mpr ?_ | refine wp_mC.mpr ?_ | refine wp_acons.mpr ?_ | refine wp_anil.mpr ?_ | refine wp_callM.mpr ?_ | refine wp_kwM.mpr ?_ | refine wp_mtup.mpr ?_ | refine wp_mlst.mpr ?_ | refine wp_msl.mpr ?_ | refine wp_onone.mpr ?_ | refine wp_osome.mpr ?_ | refine wp_tst.mpr ?_ | refine wp_tru.mpr ?_ | refine wp_tnot.mpr ?_ | refine wp_tand.mpr ?_ | refine wp_tor.mpr ?_ | refine wp_vand.mpr ?_ | refine wp_vor.mpr ?_ | refine wp_vnot.mpr ?_ | refine wp_vif.mpr ?_ | refine wp_tyes.mpr ?_ | refine wp_mM.mpr ?_ | refine wp_mneg.mpr ?_ | refine wp_mrevL.mpr ?_ | refine wp_mlenSet.mpr ?_ | refine wp_misi.mpr ?_ | refine wp_dkInt.mpr ?_ | refine wp_tCells.mpr ?_ | refine wp_iseq.mpr ?_ | refine wp_itup.mpr ?_ | refine wp_istr.mpr ?_ | refine wp_irng1.mpr ?_ | refine wp_defM.mpr ?_ | refine wp_starM.mpr ?_ | refine wp_mdisp.mpr ?_ | refine wp_sasg.mpr ?_) | (first | refine ⟨_, rfl, ?_⟩ | refine ⟨_, _, rfl, ?_⟩ | refine ⟨rfl, ?_⟩ | refine ⟨by (exact Nat.le_of_ble_eq_true rfl), ?_⟩ | refine ⟨_, by (first | rfl | exact dMod_ok (by (((try dsimp only); omega))) | exact dDiv_ok (by (((try dsimp only); omega))) (by (((try dsimp only); omega))) | exact dMul_r (by (((try dsimp only); omega))) (by (((try dsimp only); omega))) | exact dMul_l (by (((try dsimp only); omega))) (by (((try dsimp only); omega))) | assumption), ?_⟩ | refine ⟨_, _, rfl, by (exact Nat.le_of_ble_eq_true rfl), by (exact Nat.le_of_ble_eq_true rfl), ?_⟩))
    refine ⟨fun h => absurd h (by simp), fun h => ?_⟩
    repeat (first | (with_reducible first | refine wp_sseq.mpr ?_ | refine wp_set.mpr ?_ | refine wp_sret.mpr ?_ | refine wp_sif.mpr ?_ | refine wp_snil.mpr ?_ | refine wp_sdrop.mpr ?_ | refine wp_sfor.mpr ?_ | refine wp_spar.mpr ?_ | refine wp_saug.mpr ?_ | refine wp_son.mpr ?_ | refine wp_sapp.mpr ?_ | refine wp_sDraws.mpr ?_ | refine wp_sPop.mpr ?_ | refine wp_sPush.mpr ?_ | refine wp_m2.mpr ?_ | refine wp_evarB.mpr ?_ | refine wp_evar.mpr ?_ | refine wp_cst.mpr ?_ | refine wp_mC.mpr ?_ | refine wp_acons.mpr ?_ | refine wp_anil.mpr ?_ | refine wp_callM.mpr ?_ | refine wp_kwM.mpr ?_ | refine wp_mtup.mpr ?_ | refine wp_mlst.mpr ?_ | refine wp_msl.mpr ?_ | refine wp_onone.mpr ?_ | refine wp_osome.mpr ?_ | refine wp_tst.mpr ?_ | refine wp_tru.mpr ?_ | refine wp_tnot.mpr ?_ | refine wp_tand.mpr ?_ | refine wp_tor.mpr ?_ | refine wp_vand.mpr ?_ | refine wp_vor.mpr ?_ | refine wp_vnot.mpr ?_ | refine wp_vif.mpr ?_ | refine wp_tyes.mpr ?_ | refine wp_mM.mpr ?_ | refine wp_mneg.mpr ?_ | refine wp_mrevL.mpr ?_ | refine wp_mlenSet.mpr ?_ | refine wp_misi.mpr ?_ | refine wp_dkInt.mpr ?_ | refine wp_tCells.mpr ?_ | refine wp_iseq.mpr ?_ | refine wp_itup.mpr ?_ | refine wp_istr.mpr ?_ | refine wp_irng1.mpr ?_ | refine wp_defM.mpr ?_ | refine wp_starM.mpr ?_ | refine wp_mdisp.mpr ?_ | refine wp_sasg.mpr ?_) | (first | refine ⟨_, rfl, ?_⟩ | refine ⟨_, _, rfl, ?_⟩ | refine ⟨rfl, ?_⟩ | refine ⟨by (exact Nat.le_of_ble_eq_true rfl), ?_⟩ | refine ⟨_, by (first | rfl | exact dMod_ok (by (((try dsimp only); omega))) | exact dDiv_ok (by (((try dsimp only); omega))) (by (((try dsimp only); omega))) | exact dMul_r (by (((try dsimp only); omega))) (by (((try dsimp only); omega))) | exact dMul_l (by (((try dsimp only); omega))) (by (((try dsimp only); omega))) | assumption), ?_⟩ | refine ⟨_, _, rfl, by (exact Nat.le_of_ble_eq_true rfl), by (exact Nat.le_of_ble_eq_true rfl), ?_⟩))
    refine ⟨fun h => absurd h (by simp), fun h => ?_⟩
    repeat (first | (with_reducible first | refine wp_sseq.mpr ?_ | refine wp_set.mpr ?_ | refine wp_sret.mpr ?_ | refine wp_sif.mpr ?_ | refine wp_snil.mpr ?_ | refine wp_sdrop.mpr ?_ | refine wp_sfor.mpr ?_ | refine wp_spar.mpr ?_ | refine wp_saug.mpr ?_ | refine wp_son.mpr ?_ | refine wp_sapp.mpr ?_ | refine wp_sDraws.mpr ?_ | refine wp_sPop.mpr ?_ | refine wp_sPush.mpr ?_ | refine wp_m2.mpr ?_ | refine wp_evarB.mpr ?_ | refine wp_evar.mpr ?_ | refine wp_cst.mpr ?_ | refine wp_mC.mpr ?_ | refine wp_acons.mpr ?_ | refine wp_anil.mpr ?_ | refine wp_callM.mpr ?_ | refine wp_kwM.mpr ?_ | refine wp_mtup.mpr ?_ | refine wp_mlst.mpr ?_ | refine wp_msl.mpr ?_ | refine wp_onone.mpr ?_ | refine wp_osome.mpr ?_ | refine wp_tst.mpr ?_ | refine wp_tru.mpr ?_ | refine wp_tnot.mpr ?_ | refine wp_tand.mpr ?_ | refine wp_tor.mpr ?_ | refine wp_vand.mpr ?_ | refine wp_vor.mpr ?_ | refine wp_vnot.mpr ?_ | refine wp_vif.mpr ?_ | refine wp_tyes.mpr ?_ | refine wp_mM.mpr ?_ | refine wp_mneg.mpr ?_ | refine wp_mrevL.mpr ?_ | refine wp_mlenSet.mpr ?_ | refine wp_misi.mpr ?_ | refine wp_dkInt.mpr ?_ | refine wp_tCells.mpr ?_ | refine wp_iseq.mpr ?_ | refine wp_itup.mpr ?_ | refine wp_istr.mpr ?_ | refine wp_irng1.mpr ?_ | refine wp_defM.mpr ?_ | refine wp_starM.mpr ?_ | refine wp_mdisp.mpr ?_ | refine wp_sasg.mpr ?_) | (first | refine ⟨_, rfl, ?_⟩ | refine ⟨_, _, rfl, ?_⟩ | refine ⟨rfl, ?_⟩ | refine ⟨by (exact Nat.le_of_ble_eq_true rfl), ?_⟩ | refine ⟨_, by (first | rfl | exact dMod_ok (by (((try dsimp only); omega))) | exact dDiv_ok (by (((try dsimp only); omega))) (by (((try dsimp only); omega))) | exact dMul_r (by (((try dsimp only); omega))) (by (((try dsimp only); omega))) | exact dMul_l (by (((try dsimp only); omega))) (by (((try dsimp only); omega))) | assumption), ?_⟩ | refine ⟨_, _, rfl, by (exact Nat.le_of_ble_eq_true rfl), by (exact Nat.le_of_ble_eq_true rfl), ?_⟩))
    refine ⟨fun h => absurd h (by simp), fun h => ?_⟩
    repeat (first | (with_reducible first | refine wp_sseq.mpr ?_ | refine wp_set.mpr ?_ | refine wp_sret.mpr ?_ | refine wp_sif.mpr ?_ | refine wp_snil.mpr ?_ | refine wp_sdrop.mpr ?_ | refine wp_sfor.mpr ?_ | refine wp_spar.mpr ?_ | refine wp_saug.mpr ?_ | refine wp_son.mpr ?_ | refine wp_sapp.mpr ?_ | refine wp_sDraws.mpr ?_ | refine wp_sPop.mpr ?_ | refine wp_sPush.mpr ?_ | refine wp_m2.mpr ?_ | refine wp_evarB.mpr ?_ | refine wp_evar.mpr ?_ | refine wp_cst.mpr ?_ | refine wp_mC.mpr ?_ | refine wp_acons.mpr ?_ | refine wp_anil.mpr ?_ | refine wp_callM.mpr ?_ | refine wp_kwM.mpr ?_ | refine wp_mtup.mpr ?_ | refine wp_mlst.mpr ?_ | refine wp_msl.mpr ?_ | refine wp_onone.mpr ?_ | refine wp_osome.mpr ?_ | refine wp_tst.mpr ?_ | refine wp_tru.mpr ?_ | refine wp_tnot.mpr ?_ | refine wp_tand.mpr ?_ | refine wp_tor.mpr ?_ | refine wp_vand.mpr ?_ | refine wp_vor.mpr ?_ | refine wp_vnot.mpr ?_ | refine wp_vif.mpr ?_ | refine wp_tyes.mpr ?_ | refine wp_mM.mpr ?_ | refine wp_mneg.mpr ?_ | refine wp_mrevL.mpr ?_ | refine wp_mlenSet.mpr ?_ | refine wp_misi.mpr ?_ | refine wp_dkInt.mpr ?_ | refine wp_tCells.mpr ?_ | refine wp_iseq.mpr ?_ | refine wp_itup.mpr ?_ | refine wp_istr.mpr ?_ | refine wp_irng1.mpr ?_ | refine wp_defM.mpr ?_ | refine wp_starM.mpr ?_ | refine wp_mdisp.mpr ?_ | refine wp_sasg.mpr ?_) | (first | refine ⟨_, rfl, ?_⟩ | refine ⟨_, _, rfl, ?_⟩ | refine ⟨rfl, ?_⟩ | refine ⟨by (exact Nat.le_of_ble_eq_true rfl), ?_⟩ | refine ⟨_, by (first | rfl | exact dMod_ok (by (((try dsimp only); omega))) | exact dDiv_ok (by (((try dsimp only); omega))) (by (((try dsimp only); omega))) | exact dMul_r (by (((try dsimp only); omega))) (by (((try dsimp only); omega))) | exact dMul_l (by (((try dsimp only); omega))) (by (((try dsimp only); omega))) | assumption), ?_⟩ | refine ⟨_, _, rfl, by (exact Nat.le_of_ble_eq_true rfl), by (exact Nat.le_of_ble_eq_true rfl), ?_⟩))
    exact prefix_ok hs hP
theorem delay_ok {a b : List Nat} {w : Wd} {P : D → Wd → Prop} (ha : a.length ≤ 1000) (hb : b.length ≤ 1000) (hP : ∀ k, Com a [b] k → P (.tup [tx (a.drop k), tx (b.drop k)]) w) : Ok (m_delay [tx a, tx b] w) P := by
  unfold m_delay g_delay
  repeat (first | (with_reducible first | refine wp_sseq.mpr ?_ | refine wp_set.mpr ?_ | refine wp_sret.mpr ?_ | refine wp_sif.mpr ?_ | refine wp_snil.mpr ?_ | refine wp_sdrop.mpr ?_ | refine wp_sfor.mpr ?_ | refine wp_spar.mpr ?_ | refine wp_saug.mpr ?_ | refine wp_son.mpr ?_ | refine wp_sapp.mpr ?_ | refine wp_sDraws.mpr ?_ | refine wp_sPop.mpr ?_ | refine wp_sPush.mpr ?_ | refine wp_m2.mpr ?_ | refine wp_evarB.mpr ?_ | refine wp_evar.mpr ?_ | refine wp_cst.mpr ?_ | refine wp_mC.mpr ?_ | refine wp_acons.mpr ?_ | refine wp_anil.mpr ?_ | refine wp_callM.mpr ?_ | refine wp_kwM.mpr ?_ | refine wp_mtup.mpr ?_ | refine wp_mlst.mpr ?_ | refine wp_msl.mpr ?_ | refine wp_onone.mpr ?_ | refine wp_osome.mpr ?_ | refine wp_tst.mpr ?_ | refine wp_tru.mpr ?_ | refine wp_tnot.mpr ?_ | refine wp_tand.mpr ?_ | refine wp_tor.mpr ?_ | refine wp_vand.mpr ?_ | refine wp_vor.mpr ?_ | refine wp_vnot.mpr ?_ | refine wp_vif.mpr ?_ | refine wp_tyes.mpr ?_ | refine wp_mM.mpr ?_ | refine wp_mneg.mpr ?_ | refine wp_mrevL.mpr ?_ | refine wp_mlenSet.mpr ?_ | refine wp_misi.mpr ?_ | refine wp_dkInt.mpr ?_ | refine wp_tCells.mpr ?_ | refine wp_iseq.mpr ?_ | refine wp_itup.mpr ?_ | refine wp_istr.mpr ?_ | refine wp_irng1.mpr ?_ | refine wp_defM.mpr ?_ | refine wp_starM.mpr ?_ | refine wp_mdisp.mpr ?_ | refine wp_sasg.mpr ?_) | (first | refine ⟨_, rfl, ?_⟩ | refine ⟨_, _, rfl, ?_⟩ | refine ⟨rfl, ?_⟩ | refine ⟨by (exact Nat.le_of_ble_eq_true rfl), ?_⟩ | refine ⟨_, by (first | rfl | exact dMod_ok (by (((try dsimp only); omega))) | exact dDiv_ok (by (((try dsimp only); omega))) (by (((try dsimp only); omega))) | exact dMul_r (by (((try dsimp only); omega))) (by (((try dsimp only); omega))) | exact dMul_l (by (((try dsimp only); omega))) (by (((try dsimp only); omega))) | assumption), ?_⟩ | refine ⟨_, _, rfl, by (exact Nat.le_of_ble_eq_true rfl), by (exact Nat.le_of_ble_eq_true rfl), ?_⟩))
  refine prefix_ok (y := a) (r := [b]) (fun z hz => by
    rw [List.mem_cons, List.mem_singleton] at hz
    rcases hz with rfl | rfl
    · exact ha
    · exact hb) fun k hk => ?_
  have hka := hk.le
  have e : (a.take k).length = k := by rw [List.length_take]; omega
  refine ⟨_, dLen_tx (by rw [e]; exact Nat.le_trans hka (Nat.le_trans ha (by decide))), ?_⟩
  rw [e]
  repeat (first | (with_reducible first | refine wp_sseq.mpr ?_ | refine wp_set.mpr ?_ | refine wp_sret.mpr ?_ | refine wp_sif.mpr ?_ | refine wp_snil.mpr ?_ | refine wp_sdrop.mpr ?_ | refine wp_sfor.mpr ?_ | refine wp_spar.mpr ?_ | refine wp_saug.mpr ?_ | refine wp_son.mpr ?_ | refine wp_sapp.mpr ?_ | refine wp_sDraws.mpr ?_ | refine wp_sPop.mpr ?_ | refine wp_sPush.mpr ?_ | refine wp_m2.mpr ?_ | refine wp_evarB.mpr ?_ | refine wp_evar.mpr ?_ | refine wp_cst.mpr ?_ | refine wp_mC.mpr ?_ | refine wp_acons.mpr ?_ | refine wp_anil.mpr ?_ | refine wp_callM.mpr ?_ | refine wp_kwM.mpr ?_ | refine wp_mtup.mpr ?_ | refine wp_mlst.mpr ?_ | refine wp_msl.mpr ?_ | refine wp_onone.mpr ?_ | refine wp_osome.mpr ?_ | refine wp_tst.mpr ?_ | refine wp_tru.mpr ?_ | refine wp_tnot.mpr ?_ | refine wp_tand.mpr ?_ | refine wp_tor.mpr ?_ | refine wp_vand.mpr ?_ | refine wp_vor.mpr ?_ | refine wp_vnot.mpr ?_ | refine wp_vif.mpr ?_ | refine wp_tyes.mpr ?_ | refine wp_mM.mpr ?_ | refine wp_mneg.mpr ?_ | refine wp_mrevL.mpr ?_ | refine wp_mlenSet.mpr ?_ | refine wp_misi.mpr ?_ | refine wp_dkInt.mpr ?_ | refine wp_tCells.mpr ?_ | refine wp_iseq.mpr ?_ | refine wp_itup.mpr ?_ | refine wp_istr.mpr ?_ | refine wp_irng1.mpr ?_ | refine wp_defM.mpr ?_ | refine wp_starM.mpr ?_ | refine wp_mdisp.mpr ?_ | refine wp_sasg.mpr ?_) | (first | refine ⟨_, rfl, ?_⟩ | refine ⟨_, _, rfl, ?_⟩ | refine ⟨rfl, ?_⟩ | refine ⟨by (exact Nat.le_of_ble_eq_true rfl), ?_⟩ | refine ⟨_, by (first | rfl | exact dMod_ok (by (((try dsimp only); omega))) | exact dDiv_ok (by (((try dsimp only); omega))) (by (((try dsimp only); omega))) | exact dMul_r (by (((try dsimp only); omega))) (by (((try dsimp only); omega))) | exact dMul_l (by (((try dsimp only); omega))) (by (((try dsimp only); omega))) | assumption), ?_⟩ | refine ⟨_, _, rfl, by (exact Nat.le_of_ble_eq_true rfl), by (exact Nat.le_of_ble_eq_true rfl), ?_⟩))
  refine ⟨_, dSl_from (Nat.le_trans ha (by decide)), ?_⟩
  repeat (first | (with_reducible first | refine wp_sseq.mpr ?_ | refine wp_set.mpr ?_ | refine wp_sret.mpr ?_ | refine wp_sif.mpr ?_ | refine wp_snil.mpr ?_ | refine wp_sdrop.mpr ?_ | refine wp_sfor.mpr ?_ | refine wp_spar.mpr ?_ | refine wp_saug.mpr ?_ | refine wp_son.mpr ?_ | refine wp_sapp.mpr ?_ | refine wp_sDraws.mpr ?_ | refine wp_sPop.mpr ?_ | refine wp_sPush.mpr ?_ | refine wp_m2.mpr ?_ | refine wp_evarB.mpr ?_ | refine wp_evar.mpr ?_ | refine wp_cst.mpr ?_ | refine wp_mC.mpr ?_ | refine wp_acons.mpr ?_ | refine wp_anil.mpr ?_ | refine wp_callM.mpr ?_ | refine wp_kwM.mpr ?_ | refine wp_mtup.mpr ?_ | refine wp_mlst.mpr ?_ | refine wp_msl.mpr ?_ | refine wp_onone.mpr ?_ | refine wp_osome.mpr ?_ | refine wp_tst.mpr ?_ | refine wp_tru.mpr ?_ | refine wp_tnot.mpr ?_ | refine wp_tand.mpr ?_ | refine wp_tor.mpr ?_ | refine wp_vand.mpr ?_ | refine wp_vor.mpr ?_ | refine wp_vnot.mpr ?_ | refine wp_vif.mpr ?_ | refine wp_tyes.mpr ?_ | refine wp_mM.mpr ?_ | refine wp_mneg.mpr ?_ | refine wp_mrevL.mpr ?_ | refine wp_mlenSet.mpr ?_ | refine wp_misi.mpr ?_ | refine wp_dkInt.mpr ?_ | refine wp_tCells.mpr ?_ | refine wp_iseq.mpr ?_ | refine wp_itup.mpr ?_ | refine wp_istr.mpr ?_ | refine wp_irng1.mpr ?_ | refine wp_defM.mpr ?_ | refine wp_starM.mpr ?_ | refine wp_mdisp.mpr ?_ | refine wp_sasg.mpr ?_) | (first | refine ⟨_, rfl, ?_⟩ | refine ⟨_, _, rfl, ?_⟩ | refine ⟨rfl, ?_⟩ | refine ⟨by (exact Nat.le_of_ble_eq_true rfl), ?_⟩ | refine ⟨_, by (first | rfl | exact dMod_ok (by (((try dsimp only); omega))) | exact dDiv_ok (by (((try dsimp only); omega))) (by (((try dsimp only); omega))) | exact dMul_r (by (((try dsimp only); omega))) (by (((try dsimp only); omega))) | exact dMul_l (by (((try dsimp only); omega))) (by (((try dsimp only); omega))) | assumption), ?_⟩ | refine ⟨_, _, rfl, by (exact Nat.le_of_ble_eq_true rfl), by (exact Nat.le_of_ble_eq_true rfl), ?_⟩))
  refine ⟨_, dSl_from (Nat.le_trans hb (by decide)), ?_⟩
  repeat (first | (with_reducible first | refine wp_sseq.mpr ?_ | refine wp_set.mpr ?_ | refine wp_sret.mpr ?_ | refine wp_sif.mpr ?_ | refine wp_snil.mpr ?_ | refine wp_sdrop.mpr ?_ | refine wp_sfor.mpr ?_ | refine wp_spar.mpr ?_ | refine wp_saug.mpr ?_ | refine wp_son.mpr ?_ | refine wp_sapp.mpr ?_ | refine wp_sDraws.mpr ?_ | refine wp_sPop.mpr ?_ | refine wp_sPush.mpr ?_ | refine wp_m2.mpr ?_ | refine wp_evarB.mpr ?_ | refine wp_evar.mpr ?_ | refine wp_cst.mpr ?_ | refine wp_mC.mpr ?_ | refine wp_acons.mpr ?_ | refine wp_anil.mpr ?_ | refine wp_callM.mpr ?_ | refine wp_kwM.mpr ?_ | refine wp_mtup.mpr ?_ | refine wp_mlst.mpr ?_ | refine wp_msl.mpr ?_ | refine wp_onone.mpr ?_ | refine wp_osome.mpr ?_ | refine wp_tst.mpr ?_ | refine wp_tru.mpr ?_ | refine wp_tnot.mpr ?_ | refine wp_tand.mpr ?_ | refine wp_tor.mpr ?_ | refine wp_vand.mpr ?_ | refine wp_vor.mpr ?_ | refine wp_vnot.mpr ?_ | refine wp_vif.mpr ?_ | refine wp_tyes.mpr ?_ | refine wp_mM.mpr ?_ | refine wp_mneg.mpr ?_ | refine wp_mrevL.mpr ?_ | refine wp_mlenSet.mpr ?_ | refine wp_misi.mpr ?_ | refine wp_dkInt.mpr ?_ | refine wp_tCells.mpr ?_ | refine wp_iseq.mpr ?_ | refine wp_itup.mpr ?_ | refine wp_istr.mpr ?_ | refine wp_irng1.mpr ?_ | refine wp_defM.mpr ?_ | refine wp_starM.mpr ?_ | refine wp_mdisp.mpr ?_ | refine wp_sasg.mpr ?_) | (first | refine ⟨_, rfl, ?_⟩ | refine ⟨_, _, rfl, ?_⟩ | refine ⟨rfl, ?_⟩ | refine ⟨by (exact Nat.le_of_ble_eq_true rfl), ?_⟩ | refine ⟨_, by (first | rfl | exact dMod_ok (by (((try dsimp only); omega))) | exact dDiv_ok (by (((try dsimp only); omega))) (by (((try dsimp only); omega))) | exact dMul_r (by (((try dsimp only); omega))) (by (((try dsimp only); omega))) | exact dMul_l (by (((try dsimp only); omega))) (by (((try dsimp only); omega))) | assumption), ?_⟩ | refine ⟨_, _, rfl, by (exact Nat.le_of_ble_eq_true rfl), by (exact Nat.le_of_ble_eq_true rfl), ?_⟩))
  exact hP k hk

/-! ### _law_drawn -/
def Wrd (l : List Nat) : Prop := ∀ c ∈ l, c ∈ [97, 98, 99, 120, 121, 122]
theorem wrd_app {a b : List Nat} (h : Wrd a) (h2 : Wrd b) : Wrd (a ++ b) := fun c hc => by
  rcases List.mem_append.mp hc with hc | hc
  · exact h c hc
  · exact h2 c hc
theorem drawn_ok {l : List Nat} {n : Nat} {w : Wd} {P : D → Wd → Prop} (hl : l.length ≤ 500) (hw : Wrd l) (g : Good (n + 20) w) (hP : ∀ (z : List Nat) (w' : Wd), z.length ≤ l.length + 6 → Wrd z → Good n w' → P (tx z) w') : Ok (m_l_drawn [.deck, tx l] w) P := by
  unfold m_l_drawn g_l_drawn
  repeat (first | (with_reducible first | refine wp_sseq.mpr ?_ | refine wp_set.mpr ?_ | refine wp_sret.mpr ?_ | refine wp_sif.mpr ?_ | refine wp_snil.mpr ?_ | refine wp_sdrop.mpr ?_ | refine wp_sfor.mpr ?_ | refine wp_spar.mpr ?_ | refine wp_saug.mpr ?_ | refine wp_son.mpr ?_ | refine wp_sapp.mpr ?_ | refine wp_sDraws.mpr ?_ | refine wp_sPop.mpr ?_ | refine wp_sPush.mpr ?_ | refine wp_m2.mpr ?_ | refine wp_evarB.mpr ?_ | refine wp_evar.mpr ?_ | refine wp_cst.mpr ?_ | refine wp_mC.mpr ?_ | refine wp_acons.mpr ?_ | refine wp_anil.mpr ?_ | refine wp_callM.mpr ?_ | refine wp_kwM.mpr ?_ | refine wp_mtup.mpr ?_ | refine wp_mlst.mpr ?_ | refine wp_msl.mpr ?_ | refine wp_onone.mpr ?_ | refine wp_osome.mpr ?_ | refine wp_tst.mpr ?_ | refine wp_tru.mpr ?_ | refine wp_tnot.mpr ?_ | refine wp_tand.mpr ?_ | refine wp_tor.mpr ?_ | refine wp_vand.mpr ?_ | refine wp_vor.mpr ?_ | refine wp_vnot.mpr ?_ | refine wp_vif.mpr ?_ | refine wp_tyes.mpr ?_ | refine wp_mM.mpr ?_ | refine wp_mneg.mpr ?_ | refine wp_mrevL.mpr ?_ | refine wp_mlenSet.mpr ?_ | refine wp_misi.mpr ?_ | refine wp_dkInt.mpr ?_ | refine wp_tCells.mpr ?_ | refine wp_iseq.mpr ?_ | refine wp_itup.mpr ?_ | refine wp_istr.mpr ?_ | refine wp_irng1.mpr ?_ | refine wp_defM.mpr ?_ | refine wp_starM.mpr ?_ | refine wp_mdisp.mpr ?_ | refine wp_sasg.mpr ?_) | (first | refine ⟨_, rfl, ?_⟩ | refine ⟨_, _, rfl, ?_⟩ | refine ⟨rfl, ?_⟩ | refine ⟨by (exact Nat.le_of_ble_eq_true rfl), ?_⟩ | refine ⟨_, by (first | rfl | exact dMod_ok (by (((try dsimp only); omega))) | exact dDiv_ok (by (((try dsimp only); omega))) (by (((try dsimp only); omega))) | exact dMul_r (by (((try dsimp only); omega))) (by (((try dsimp only); omega))) | exact dMul_l (by (((try dsimp only); omega))) (by (((try dsimp only); omega))) | assumption), ?_⟩ | refine ⟨_, _, rfl, by (exact Nat.le_of_ble_eq_true rfl), by (exact Nat.le_of_ble_eq_true rfl), ?_⟩))
  refine pickL (n := n + 19) (by (exact Nat.le_of_ble_eq_true rfl)) (by (exact Nat.le_of_ble_eq_true rfl)) g fun d w1 hd g1 => ?_
  obtain ⟨s, rfl, hs, hs0, hs1⟩ : ∃ s, d = tx s ∧ Wrd s ∧ 0 < s.length ∧ s.length ≤ 3 := by
    simp only [List.mem_cons, List.not_mem_nil, or_false] at hd
    rcases hd with rfl | rfl | rfl | rfl
    · exact ⟨[97], rfl, (by unfold Wrd; decide), by decide, by decide⟩
    · exact ⟨[97, 98], rfl, (by unfold Wrd; decide), by decide, by decide⟩
    · exact ⟨[97, 98, 122], rfl, (by unfold Wrd; decide), by decide, by decide⟩
    · exact ⟨[120, 121], rfl, (by unfold Wrd; decide), by decide, by decide⟩
  repeat (first | (with_reducible first | refine wp_sseq.mpr ?_ | refine wp_set.mpr ?_ | refine wp_sret.mpr ?_ | refine wp_sif.mpr ?_ | refine wp_snil.mpr ?_ | refine wp_sdrop.mpr ?_ | refine wp_sfor.mpr ?_ | refine wp_spar.mpr ?_ | refine wp_saug.mpr ?_ | refine wp_son.mpr ?_ | refine wp_sapp.mpr ?_ | refine wp_sDraws.mpr ?_ | refine wp_sPop.mpr ?_ | refine wp_sPush.mpr ?_ | refine wp_m2.mpr ?_ | refine wp_evarB.mpr ?_ | refine wp_evar.mpr ?_ | refine wp_cst.mpr ?_ | refine wp_mC.mpr ?_ | refine wp_acons.mpr ?_ | refine wp_anil.mpr ?_ | refine wp_callM.mpr ?_ | refine wp_kwM.mpr ?_ | refine wp_mtup.mpr ?_ | refine wp_mlst.mpr ?_ | refine wp_msl.mpr ?_ | refine wp_onone.mpr ?_ | refine wp_osome.mpr ?_ | refine wp_tst.mpr ?_ | refine wp_tru.mpr ?_ | refine wp_tnot.mpr ?_ | refine wp_tand.mpr ?_ | refine wp_tor.mpr ?_ | refine wp_vand.mpr ?_ | refine wp_vor.mpr ?_ | refine wp_vnot.mpr ?_ | refine wp_vif.mpr ?_ | refine wp_tyes.mpr ?_ | refine wp_mM.mpr ?_ | refine wp_mneg.mpr ?_ | refine wp_mrevL.mpr ?_ | refine wp_mlenSet.mpr ?_ | refine wp_misi.mpr ?_ | refine wp_dkInt.mpr ?_ | refine wp_tCells.mpr ?_ | refine wp_iseq.mpr ?_ | refine wp_itup.mpr ?_ | refine wp_istr.mpr ?_ | refine wp_irng1.mpr ?_ | refine wp_defM.mpr ?_ | refine wp_starM.mpr ?_ | refine wp_mdisp.mpr ?_ | refine wp_sasg.mpr ?_) | (first | refine ⟨_, rfl, ?_⟩ | refine ⟨_, _, rfl, ?_⟩ | refine ⟨rfl, ?_⟩ | refine ⟨by (exact Nat.le_of_ble_eq_true rfl), ?_⟩ | refine ⟨_, by (first | rfl | exact dMod_ok (by (((try dsimp only); omega))) | exact dDiv_ok (by (((try dsimp only); omega))) (by (((try dsimp only); omega))) | exact dMul_r (by (((try dsimp only); omega))) (by (((try dsimp only); omega))) | exact dMul_l (by (((try dsimp only); omega))) (by (((try dsimp only); omega))) | assumption), ?_⟩ | refine ⟨_, _, rfl, by (exact Nat.le_of_ble_eq_true rfl), by (exact Nat.le_of_ble_eq_true rfl), ?_⟩))
  refine ⟨_, dLen_tx (Nat.le_trans hl (by decide)), ?_⟩
  repeat (first | (with_reducible first | refine wp_sseq.mpr ?_ | refine wp_set.mpr ?_ | refine wp_sret.mpr ?_ | refine wp_sif.mpr ?_ | refine wp_snil.mpr ?_ | refine wp_sdrop.mpr ?_ | refine wp_sfor.mpr ?_ | refine wp_spar.mpr ?_ | refine wp_saug.mpr ?_ | refine wp_son.mpr ?_ | refine wp_sapp.mpr ?_ | refine wp_sDraws.mpr ?_ | refine wp_sPop.mpr ?_ | refine wp_sPush.mpr ?_ | refine wp_m2.mpr ?_ | refine wp_evarB.mpr ?_ | refine wp_evar.mpr ?_ | refine wp_cst.mpr ?_ | refine wp_mC.mpr ?_ | refine wp_acons.mpr ?_ | refine wp_anil.mpr ?_ | refine wp_callM.mpr ?_ | refine wp_kwM.mpr ?_ | refine wp_mtup.mpr ?_ | refine wp_mlst.mpr ?_ | refine wp_msl.mpr ?_ | refine wp_onone.mpr ?_ | refine wp_osome.mpr ?_ | refine wp_tst.mpr ?_ | refine wp_tru.mpr ?_ | refine wp_tnot.mpr ?_ | refine wp_tand.mpr ?_ | refine wp_tor.mpr ?_ | refine wp_vand.mpr ?_ | refine wp_vor.mpr ?_ | refine wp_vnot.mpr ?_ | refine wp_vif.mpr ?_ | refine wp_tyes.mpr ?_ | refine wp_mM.mpr ?_ | refine wp_mneg.mpr ?_ | refine wp_mrevL.mpr ?_ | refine wp_mlenSet.mpr ?_ | refine wp_misi.mpr ?_ | refine wp_dkInt.mpr ?_ | refine wp_tCells.mpr ?_ | refine wp_iseq.mpr ?_ | refine wp_itup.mpr ?_ | refine wp_istr.mpr ?_ | refine wp_irng1.mpr ?_ | refine wp_defM.mpr ?_ | refine wp_starM.mpr ?_ | refine wp_mdisp.mpr ?_ | refine wp_sasg.mpr ?_) | (first | refine ⟨_, rfl, ?_⟩ | refine ⟨_, _, rfl, ?_⟩ | refine ⟨rfl, ?_⟩ | refine ⟨by (exact Nat.le_of_ble_eq_true rfl), ?_⟩ | refine ⟨_, by (first | rfl | exact dMod_ok (by (((try dsimp only); omega))) | exact dDiv_ok (by (((try dsimp only); omega))) (by (((try dsimp only); omega))) | exact dMul_r (by (((try dsimp only); omega))) (by (((try dsimp only); omega))) | exact dMul_l (by (((try dsimp only); omega))) (by (((try dsimp only); omega))) | assumption), ?_⟩ | refine ⟨_, _, rfl, by (exact Nat.le_of_ble_eq_true rfl), by (exact Nat.le_of_ble_eq_true rfl), ?_⟩))
  refine draw (n := n + 18) (by omega) (by omega) g1 fun k w2 k0 k1 g2 => ?_
  obtain ⟨k, rfl⟩ : ∃ k' : Nat, k = k' := ⟨k.toNat, (Int.toNat_of_nonneg k0).symm⟩
  repeat (first | (with_reducible first | refine wp_sseq.mpr ?_ | refine wp_set.mpr ?_ | refine wp_sret.mpr ?_ | refine wp_sif.mpr ?_ | refine wp_snil.mpr ?_ | refine wp_sdrop.mpr ?_ | refine wp_sfor.mpr ?_ | refine wp_spar.mpr ?_ | refine wp_saug.mpr ?_ | refine wp_son.mpr ?_ | refine wp_sapp.mpr ?_ | refine wp_sDraws.mpr ?_ | refine wp_sPop.mpr ?_ | refine wp_sPush.mpr ?_ | refine wp_m2.mpr ?_ | refine wp_evarB.mpr ?_ | refine wp_evar.mpr ?_ | refine wp_cst.mpr ?_ | refine wp_mC.mpr ?_ | refine wp_acons.mpr ?_ | refine wp_anil.mpr ?_ | refine wp_callM.mpr ?_ | refine wp_kwM.mpr ?_ | refine wp_mtup.mpr ?_ | refine wp_mlst.mpr ?_ | refine wp_msl.mpr ?_ | refine wp_onone.mpr ?_ | refine wp_osome.mpr ?_ | refine wp_tst.mpr ?_ | refine wp_tru.mpr ?_ | refine wp_tnot.mpr ?_ | refine wp_tand.mpr ?_ | refine wp_tor.mpr ?_ | refine wp_vand.mpr ?_ | refine wp_vor.mpr ?_ | refine wp_vnot.mpr ?_ | refine wp_vif.mpr ?_ | refine wp_tyes.mpr ?_ | refine wp_mM.mpr ?_ | refine wp_mneg.mpr ?_ | refine wp_mrevL.mpr ?_ | refine wp_mlenSet.mpr ?_ | refine wp_misi.mpr ?_ | refine wp_dkInt.mpr ?_ | refine wp_tCells.mpr ?_ | refine wp_iseq.mpr ?_ | refine wp_itup.mpr ?_ | refine wp_istr.mpr ?_ | refine wp_irng1.mpr ?_ | refine wp_defM.mpr ?_ | refine wp_starM.mpr ?_ | refine wp_mdisp.mpr ?_ | refine wp_sasg.mpr ?_) | (first | refine ⟨_, rfl, ?_⟩ | refine ⟨_, _, rfl, ?_⟩ | refine ⟨rfl, ?_⟩ | refine ⟨by (exact Nat.le_of_ble_eq_true rfl), ?_⟩ | refine ⟨_, by (first | rfl | exact dMod_ok (by (((try dsimp only); omega))) | exact dDiv_ok (by (((try dsimp only); omega))) (by (((try dsimp only); omega))) | exact dMul_r (by (((try dsimp only); omega))) (by (((try dsimp only); omega))) | exact dMul_l (by (((try dsimp only); omega))) (by (((try dsimp only); omega))) | assumption), ?_⟩ | refine ⟨_, _, rfl, by (exact Nat.le_of_ble_eq_true rfl), by (exact Nat.le_of_ble_eq_true rfl), ?_⟩))
  refine ⟨_, dSl_to (Nat.le_trans hl (by decide)), ?_⟩
  repeat (first | (with_reducible first | refine wp_sseq.mpr ?_ | refine wp_set.mpr ?_ | refine wp_sret.mpr ?_ | refine wp_sif.mpr ?_ | refine wp_snil.mpr ?_ | refine wp_sdrop.mpr ?_ | refine wp_sfor.mpr ?_ | refine wp_spar.mpr ?_ | refine wp_saug.mpr ?_ | refine wp_son.mpr ?_ | refine wp_sapp.mpr ?_ | refine wp_sDraws.mpr ?_ | refine wp_sPop.mpr ?_ | refine wp_sPush.mpr ?_ | refine wp_m2.mpr ?_ | refine wp_evarB.mpr ?_ | refine wp_evar.mpr ?_ | refine wp_cst.mpr ?_ | refine wp_mC.mpr ?_ | refine wp_acons.mpr ?_ | refine wp_anil.mpr ?_ | refine wp_callM.mpr ?_ | refine wp_kwM.mpr ?_ | refine wp_mtup.mpr ?_ | refine wp_mlst.mpr ?_ | refine wp_msl.mpr ?_ | refine wp_onone.mpr ?_ | refine wp_osome.mpr ?_ | refine wp_tst.mpr ?_ | refine wp_tru.mpr ?_ | refine wp_tnot.mpr ?_ | refine wp_tand.mpr ?_ | refine wp_tor.mpr ?_ | refine wp_vand.mpr ?_ | refine wp_vor.mpr ?_ | refine wp_vnot.mpr ?_ | refine wp_vif.mpr ?_ | refine wp_tyes.mpr ?_ | refine wp_mM.mpr ?_ | refine wp_mneg.mpr ?_ | refine wp_mrevL.mpr ?_ | refine wp_mlenSet.mpr ?_ | refine wp_misi.mpr ?_ | refine wp_dkInt.mpr ?_ | refine wp_tCells.mpr ?_ | refine wp_iseq.mpr ?_ | refine wp_itup.mpr ?_ | refine wp_istr.mpr ?_ | refine wp_irng1.mpr ?_ | refine wp_defM.mpr ?_ | refine wp_starM.mpr ?_ | refine wp_mdisp.mpr ?_ | refine wp_sasg.mpr ?_) | (first | refine ⟨_, rfl, ?_⟩ | refine ⟨_, _, rfl, ?_⟩ | refine ⟨rfl, ?_⟩ | refine ⟨by (exact Nat.le_of_ble_eq_true rfl), ?_⟩ | refine ⟨_, by (first | rfl | exact dMod_ok (by (((try dsimp only); omega))) | exact dDiv_ok (by (((try dsimp only); omega))) (by (((try dsimp only); omega))) | exact dMul_r (by (((try dsimp only); omega))) (by (((try dsimp only); omega))) | exact dMul_l (by (((try dsimp only); omega))) (by (((try dsimp only); omega))) | assumption), ?_⟩ | refine ⟨_, _, rfl, by (exact Nat.le_of_ble_eq_true rfl), by (exact Nat.le_of_ble_eq_true rfl), ?_⟩))
  refine lc_inv (fun pre acc w' => ∃ ls : List (List Nat), acc = ls.map tx ∧ ls.length = pre.length ∧ (∀ z ∈ ls, z.length = 1 ∧ Wrd z) ∧ pre.length ≤ 6 ∧ Good (n + 10 - pre.length) w') ?_
  repeat (first | (with_reducible first | refine wp_sseq.mpr ?_ | refine wp_set.mpr ?_ | refine wp_sret.mpr ?_ | refine wp_sif.mpr ?_ | refine wp_snil.mpr ?_ | refine wp_sdrop.mpr ?_ | refine wp_sfor.mpr ?_ | refine wp_spar.mpr ?_ | refine wp_saug.mpr ?_ | refine wp_son.mpr ?_ | refine wp_sapp.mpr ?_ | refine wp_sDraws.mpr ?_ | refine wp_sPop.mpr ?_ | refine wp_sPush.mpr ?_ | refine wp_m2.mpr ?_ | refine wp_evarB.mpr ?_ | refine wp_evar.mpr ?_ | refine wp_cst.mpr ?_ | refine wp_mC.mpr ?_ | refine wp_acons.mpr ?_ | refine wp_anil.mpr ?_ | refine wp_callM.mpr ?_ | refine wp_kwM.mpr ?_ | refine wp_mtup.mpr ?_ | refine wp_mlst.mpr ?_ | refine wp_msl.mpr ?_ | refine wp_onone.mpr ?_ | refine wp_osome.mpr ?_ | refine wp_tst.mpr ?_ | refine wp_tru.mpr ?_ | refine wp_tnot.mpr ?_ | refine wp_tand.mpr ?_ | refine wp_tor.mpr ?_ | refine wp_vand.mpr ?_ | refine wp_vor.mpr ?_ | refine wp_vnot.mpr ?_ | refine wp_vif.mpr ?_ | refine wp_tyes.mpr ?_ | refine wp_mM.mpr ?_ | refine wp_mneg.mpr ?_ | refine wp_mrevL.mpr ?_ | refine wp_mlenSet.mpr ?_ | refine wp_misi.mpr ?_ | refine wp_dkInt.mpr ?_ | refine wp_tCells.mpr ?_ | refine wp_iseq.mpr ?_ | refine wp_itup.mpr ?_ | refine wp_istr.mpr ?_ | refine wp_irng1.mpr ?_ | refine wp_defM.mpr ?_ | refine wp_starM.mpr ?_ | refine wp_mdisp.mpr ?_ | refine wp_sasg.mpr ?_) | (first | refine ⟨_, rfl, ?_⟩ | refine ⟨_, _, rfl, ?_⟩ | refine ⟨rfl, ?_⟩ | refine ⟨by (exact Nat.le_of_ble_eq_true rfl), ?_⟩ | refine ⟨_, by (first | rfl | exact dMod_ok (by (((try dsimp only); omega))) | exact dDiv_ok (by (((try dsimp only); omega))) (by (((try dsimp only); omega))) | exact dMul_r (by (((try dsimp only); omega))) (by (((try dsimp only); omega))) | exact dMul_l (by (((try dsimp only); omega))) (by (((try dsimp only); omega))) | assumption), ?_⟩ | refine ⟨_, _, rfl, by (exact Nat.le_of_ble_eq_true rfl), by (exact Nat.le_of_ble_eq_true rfl), ?_⟩))
  refine draw (n := n + 17) (by omega) (by omega) g2 fun j w3 j0 j1 g3 => ?_
  refine ⟨j, rfl, by omega, by omega, ?_⟩
  have hr : ((List.range j.toNat).map fun i : Nat => D.int i).length ≤ 6 := by rw [List.length_map, List.length_range]; omega
  refine ⟨Nat.le_trans hr (by decide), ⟨[], rfl, rfl, (fun z hz => by cases hz), by (exact Nat.le_of_ble_eq_true rfl), g3.mono (by show n + 10 - 0 ≤ _; omega)⟩, by (exact Nat.le_of_ble_eq_true rfl), ?_, ?_⟩
  · rintro pre post acc d w' eq ⟨ls, rfl, h1, h2, h3, h4⟩
    have hp : pre.length + 1 ≤ 6 := by
      have := congrArg List.length eq
      rw [List.length_append, List.length_cons] at this
      omega
    have h4' : Good (n + 9 - pre.length + 1) w' := h4.mono (by omega)
    repeat (first | (with_reducible first | refine wp_sseq.mpr ?_ | refine wp_set.mpr ?_ | refine wp_sret.mpr ?_ | refine wp_sif.mpr ?_ | refine wp_snil.mpr ?_ | refine wp_sdrop.mpr ?_ | refine wp_sfor.mpr ?_ | refine wp_spar.mpr ?_ | refine wp_saug.mpr ?_ | refine wp_son.mpr ?_ | refine wp_sapp.mpr ?_ | refine wp_sDraws.mpr ?_ | refine wp_sPop.mpr ?_ | refine wp_sPush.mpr ?_ | refine wp_m2.mpr ?_ | refine wp_evarB.mpr ?_ | refine wp_evar.mpr ?_ | refine wp_cst.mpr ?_ | refine wp_mC.mpr ?_ | refine wp_acons.mpr ?_ | refine wp_anil.mpr ?_ | refine wp_callM.mpr ?_ | refine wp_kwM.mpr ?_ | refine wp_mtup.mpr ?_ | refine wp_mlst.mpr ?_ | refine wp_msl.mpr ?_ | refine wp_onone.mpr ?_ | refine wp_osome.mpr ?_ | refine wp_tst.mpr ?_ | refine wp_tru.mpr ?_ | refine wp_tnot.mpr ?_ | refine wp_tand.mpr ?_ | refine wp_tor.mpr ?_ | refine wp_vand.mpr ?_ | refine wp_vor.mpr ?_ | refine wp_vnot.mpr ?_ | refine wp_vif.mpr ?_ | refine wp_tyes.mpr ?_ | refine wp_mM.mpr ?_ | refine wp_mneg.mpr ?_ | refine wp_mrevL.mpr ?_ | refine wp_mlenSet.mpr ?_ | refine wp_misi.mpr ?_ | refine wp_dkInt.mpr ?_ | refine wp_tCells.mpr ?_ | refine wp_iseq.mpr ?_ | refine wp_itup.mpr ?_ | refine wp_istr.mpr ?_ | refine wp_irng1.mpr ?_ | refine wp_defM.mpr ?_ | refine wp_starM.mpr ?_ | refine wp_mdisp.mpr ?_ | refine wp_sasg.mpr ?_) | (first | refine ⟨_, rfl, ?_⟩ | refine ⟨_, _, rfl, ?_⟩ | refine ⟨rfl, ?_⟩ | refine ⟨by (exact Nat.le_of_ble_eq_true rfl), ?_⟩ | refine ⟨_, by (first | rfl | exact dMod_ok (by (((try dsimp only); omega))) | exact dDiv_ok (by (((try dsimp only); omega))) (by (((try dsimp only); omega))) | exact dMul_r (by (((try dsimp only); omega))) (by (((try dsimp only); omega))) | exact dMul_l (by (((try dsimp only); omega))) (by (((try dsimp only); omega))) | assumption), ?_⟩ | refine ⟨_, _, rfl, by (exact Nat.le_of_ble_eq_true rfl), by (exact Nat.le_of_ble_eq_true rfl), ?_⟩))
    refine pickS hs0 (Nat.le_trans hs1 (by decide)) h4' fun c w'' hc g' => ?_
    refine ⟨ls ++ [[c]], by simp, by simp [h1], fun z hz => ?_, by simpa using hp, g'.mono (by rw [List.length_append]; show n + 10 - (pre.length + 1) ≤ _; omega)⟩
    rw [List.mem_append, List.mem_singleton] at hz
    rcases hz with hz | rfl
    · exact h2 z hz
    · exact ⟨rfl, fun x hx => by rw [List.mem_singleton] at hx; rw [hx]; exact hs c hc⟩
  · rintro acc w' ⟨ls, rfl, h1, h2, h3, h4⟩
    repeat (first | (with_reducible first | refine wp_sseq.mpr ?_ | refine wp_set.mpr ?_ | refine wp_sret.mpr ?_ | refine wp_sif.mpr ?_ | refine wp_snil.mpr ?_ | refine wp_sdrop.mpr ?_ | refine wp_sfor.mpr ?_ | refine wp_spar.mpr ?_ | refine wp_saug.mpr ?_ | refine wp_son.mpr ?_ | refine wp_sapp.mpr ?_ | refine wp_sDraws.mpr ?_ | refine wp_sPop.mpr ?_ | refine wp_sPush.mpr ?_ | refine wp_m2.mpr ?_ | refine wp_evarB.mpr ?_ | refine wp_evar.mpr ?_ | refine wp_cst.mpr ?_ | refine wp_mC.mpr ?_ | refine wp_acons.mpr ?_ | refine wp_anil.mpr ?_ | refine wp_callM.mpr ?_ | refine wp_kwM.mpr ?_ | refine wp_mtup.mpr ?_ | refine wp_mlst.mpr ?_ | refine wp_msl.mpr ?_ | refine wp_onone.mpr ?_ | refine wp_osome.mpr ?_ | refine wp_tst.mpr ?_ | refine wp_tru.mpr ?_ | refine wp_tnot.mpr ?_ | refine wp_tand.mpr ?_ | refine wp_tor.mpr ?_ | refine wp_vand.mpr ?_ | refine wp_vor.mpr ?_ | refine wp_vnot.mpr ?_ | refine wp_vif.mpr ?_ | refine wp_tyes.mpr ?_ | refine wp_mM.mpr ?_ | refine wp_mneg.mpr ?_ | refine wp_mrevL.mpr ?_ | refine wp_mlenSet.mpr ?_ | refine wp_misi.mpr ?_ | refine wp_dkInt.mpr ?_ | refine wp_tCells.mpr ?_ | refine wp_iseq.mpr ?_ | refine wp_itup.mpr ?_ | refine wp_istr.mpr ?_ | refine wp_irng1.mpr ?_ | refine wp_defM.mpr ?_ | refine wp_starM.mpr ?_ | refine wp_mdisp.mpr ?_ | refine wp_sasg.mpr ?_) | (first | refine ⟨_, rfl, ?_⟩ | refine ⟨_, _, rfl, ?_⟩ | refine ⟨rfl, ?_⟩ | refine ⟨by (exact Nat.le_of_ble_eq_true rfl), ?_⟩ | refine ⟨_, by (first | rfl | exact dMod_ok (by (((try dsimp only); omega))) | exact dDiv_ok (by (((try dsimp only); omega))) (by (((try dsimp only); omega))) | exact dMul_r (by (((try dsimp only); omega))) (by (((try dsimp only); omega))) | exact dMul_l (by (((try dsimp only); omega))) (by (((try dsimp only); omega))) | assumption), ?_⟩ | refine ⟨_, _, rfl, by (exact Nat.le_of_ble_eq_true rfl), by (exact Nat.le_of_ble_eq_true rfl), ?_⟩))
    have hsum : (ls.map List.length).sum ≤ 6 := by
      have : (ls.map List.length).sum = ls.length := by
        clear h1 hr h3 h4
        induction ls with
        | nil => rfl
        | cons z ls ih =>
          rw [List.map_cons, List.sum_cons, ih fun x hx => h2 x (List.mem_cons_of_mem _ hx), (h2 z List.mem_cons_self).1, List.length_cons]
          omega
      omega
    refine ⟨_, dJoin_nil (Nat.le_trans hsum (by decide)), ?_⟩
    have hf : ls.flatten.length ≤ 6 := by rw [List.length_flatten]; exact hsum
    have ht : (l.take k).length ≤ l.length := by rw [List.length_take]; omega
    refine ⟨_, dAdd_tx (by show _ ≤ 16777216; omega), ?_⟩
    refine hP _ _ (by rw [List.length_append]; omega) (wrd_app (fun c hc => hw c (List.mem_of_mem_take hc)) fun c hc => ?_) (h4.mono (by omega))
    obtain ⟨z, hz, hcz⟩ := List.mem_flatten.mp hc
    exact (h2 z hz).2 c hcz

end K02

set_option Elab.async false
set_option linter.all false
set_option maxRecDepth 100000
set_option maxHeartbeats 400000
/-! K02M: the law of k02 in plain Lean, its second half. -/
namespace K02
open PySem PySem.Spec PyProof.Rows L2 L3 Pre
/-! ### _law_right -/
theorem wrd_small {l : List Nat} (h : Wrd l) : ∀ c ∈ l, c < 0x110000 := fun c hc => by
  have := h c hc
  simp only [List.mem_cons, List.not_mem_nil, or_false] at this
  omega
theorem wrd_take {l : List Nat} (h : Wrd l) (k : Nat) : Wrd (l.take k) := fun c hc => h c (List.mem_of_mem_take hc)
theorem wrd_drop {l : List Nat} (h : Wrd l) (k : Nat) : Wrd (l.drop k) := fun c hc => h c (List.mem_of_mem_drop hc)
theorem dMul_lst {l : List D} {k : Nat} (h1 : k ≤ 1000) (h : l.length ≤ 1000) : dMul (.lst l) (.int k) = some (.lst (List.replicate k l).flatten) := by
  have h3 : l.length * k ≤ 1000 * 1000 := Nat.mul_le_mul h h1
  have h4 : -(2 ^ 63) ≤ (k : Int) ∧ (k : Int) < 2 ^ 63 ∧ l.length * (k : Int).toNat ≤ SL := ⟨by omega, by omega, by rw [Int.toNat_natCast]; show _ ≤ 16777216; omega⟩
  unfold dMul
  dsimp only
  rw [if_pos h4, Int.toNat_natCast]
def HD : List Nat := [97, 98, 120, 121, 122, 97, 98, 120, 121, 122, 97, 98]
theorem hd_eq : D.str (Str.ofString "abxyzabxyzab") = tx HD := congrArg D.str (by decide +kernel)
theorem right_ok {n : Nat} {w : Wd} {P : D → Wd → Prop} (g : Good (n + 200) w) (hP : ∀ w', Good n w' → P (.bl true) w') : Ok (m_l_right [.deck] w) P := by
  have eH : D.str (Str.ofString "abxyzabxyzab") = tx HD := hd_eq
  have wH : Wrd HD := by unfold Wrd; decide
  unfold m_l_right g_l_right
  rw [eH]
  repeat (first | (with_reducible first | refine wp_sseq.mpr ?_ | refine wp_set.mpr ?_ | refine wp_sret.mpr ?_ | refine wp_sif.mpr ?_ | refine wp_snil.mpr ?_ | refine wp_sdrop.mpr ?_ | refine wp_sfor.mpr ?_ | refine wp_spar.mpr ?_ | refine wp_saug.mpr ?_ | refine wp_son.mpr ?_ | refine wp_sapp.mpr ?_ | refine wp_sDraws.mpr ?_ | refine wp_sPop.mpr ?_ | refine wp_sPush.mpr ?_ | refine wp_m2.mpr ?_ | refine wp_evarB.mpr ?_ | refine wp_evar.mpr ?_ | refine wp_cst.mpr ?_ | refine wp_mC.mpr ?_ | refine wp_acons.mpr ?_ | refine wp_anil.mpr ?_ | refine wp_callM.mpr ?_ | refine wp_kwM.mpr ?_ | refine wp_mtup.mpr ?_ | refine wp_mlst.mpr ?_ | refine wp_msl.mpr ?_ | refine wp_onone.mpr ?_ | refine wp_osome.mpr ?_ | refine wp_tst.mpr ?_ | refine wp_tru.mpr ?_ | refine wp_tnot.mpr ?_ | refine wp_tand.mpr ?_ | refine wp_tor.mpr ?_ | refine wp_vand.mpr ?_ | refine wp_vor.mpr ?_ | refine wp_vnot.mpr ?_ | refine wp_vif.mpr ?_ | refine wp_tyes.mpr ?_ | refine wp_mM.mpr ?_ | refine wp_mneg.mpr ?_ | refine wp_mrevL.mpr ?_ | refine wp_mlenSet.mpr ?_ | refine wp_misi.mpr ?_ | refine wp_dkInt.mpr ?_ | refine wp_tCells.mpr ?_ | refine wp_iseq.mpr ?_ | refine wp_itup.mpr ?_ | refine wp_istr.mpr ?_ | refine wp_irng1.mpr ?_ | refine wp_defM.mpr ?_ | refine wp_starM.mpr ?_ | refine wp_mdisp.mpr ?_ | refine wp_sasg.mpr ?_) | (first | refine ⟨_, rfl, ?_⟩ | refine ⟨_, _, rfl, ?_⟩ | refine ⟨rfl, ?_⟩ | refine ⟨by (exact Nat.le_of_ble_eq_true rfl), ?_⟩ | refine ⟨_, by (first | rfl | exact dMod_ok (by (((try dsimp only); omega))) | exact dDiv_ok (by (((try dsimp only); omega))) (by (((try dsimp only); omega))) | exact dMul_r (by (((try dsimp only); omega))) (by (((try dsimp only); omega))) | exact dMul_l (by (((try dsimp only); omega))) (by (((try dsimp only); omega))) | assumption), ?_⟩ | refine ⟨_, _, rfl, by (exact Nat.le_of_ble_eq_true rfl), by (exact Nat.le_of_ble_eq_true rfl), ?_⟩))
  refine draw (n := n + 199) (by omega) (by omega) g fun k w1 k0 k1 g1 => ?_
  obtain ⟨k, rfl⟩ : ∃ k' : Nat, k = k' := ⟨k.toNat, (Int.toNat_of_nonneg k0).symm⟩
  repeat (first | (with_reducible first | refine wp_sseq.mpr ?_ | refine wp_set.mpr ?_ | refine wp_sret.mpr ?_ | refine wp_sif.mpr ?_ | refine wp_snil.mpr ?_ | refine wp_sdrop.mpr ?_ | refine wp_sfor.mpr ?_ | refine wp_spar.mpr ?_ | refine wp_saug.mpr ?_ | refine wp_son.mpr ?_ | refine wp_sapp.mpr ?_ | refine wp_sDraws.mpr ?_ | refine wp_sPop.mpr ?_ | refine wp_sPush.mpr ?_ | refine wp_m2.mpr ?_ | refine wp_evarB.mpr ?_ | refine wp_evar.mpr ?_ | refine wp_cst.mpr ?_ | refine wp_mC.mpr ?_ | refine wp_acons.mpr ?_ | refine wp_anil.mpr ?_ | refine wp_callM.mpr ?_ | refine wp_kwM.mpr ?_ | refine wp_mtup.mpr ?_ | refine wp_mlst.mpr ?_ | refine wp_msl.mpr ?_ | refine wp_onone.mpr ?_ | refine wp_osome.mpr ?_ | refine wp_tst.mpr ?_ | refine wp_tru.mpr ?_ | refine wp_tnot.mpr ?_ | refine wp_tand.mpr ?_ | refine wp_tor.mpr ?_ | refine wp_vand.mpr ?_ | refine wp_vor.mpr ?_ | refine wp_vnot.mpr ?_ | refine wp_vif.mpr ?_ | refine wp_tyes.mpr ?_ | refine wp_mM.mpr ?_ | refine wp_mneg.mpr ?_ | refine wp_mrevL.mpr ?_ | refine wp_mlenSet.mpr ?_ | refine wp_misi.mpr ?_ | refine wp_dkInt.mpr ?_ | refine wp_tCells.mpr ?_ | refine wp_iseq.mpr ?_ | refine wp_itup.mpr ?_ | refine wp_istr.mpr ?_ | refine wp_irng1.mpr ?_ | refine wp_defM.mpr ?_ | refine wp_starM.mpr ?_ | refine wp_mdisp.mpr ?_ | refine wp_sasg.mpr ?_) | (first | refine ⟨_, rfl, ?_⟩ | refine ⟨_, _, rfl, ?_⟩ | refine ⟨rfl, ?_⟩ | refine ⟨by (exact Nat.le_of_ble_eq_true rfl), ?_⟩ | refine ⟨_, by (first | rfl | exact dMod_ok (by (((try dsimp only); omega))) | exact dDiv_ok (by (((try dsimp only); omega))) (by (((try dsimp only); omega))) | exact dMul_r (by (((try dsimp only); omega))) (by (((try dsimp only); omega))) | exact dMul_l (by (((try dsimp only); omega))) (by (((try dsimp only); omega))) | assumption), ?_⟩ | refine ⟨_, _, rfl, by (exact Nat.le_of_ble_eq_true rfl), by (exact Nat.le_of_ble_eq_true rfl), ?_⟩))
  refine ⟨_, dSl_to (l := HD) (by (exact Nat.le_of_ble_eq_true rfl)), ?_⟩
  repeat (first | (with_reducible first | refine wp_sseq.mpr ?_ | refine wp_set.mpr ?_ | refine wp_sret.mpr ?_ | refine wp_sif.mpr ?_ | refine wp_snil.mpr ?_ | refine wp_sdrop.mpr ?_ | refine wp_sfor.mpr ?_ | refine wp_spar.mpr ?_ | refine wp_saug.mpr ?_ | refine wp_son.mpr ?_ | refine wp_sapp.mpr ?_ | refine wp_sDraws.mpr ?_ | refine wp_sPop.mpr ?_ | refine wp_sPush.mpr ?_ | refine wp_m2.mpr ?_ | refine wp_evarB.mpr ?_ | refine wp_evar.mpr ?_ | refine wp_cst.mpr ?_ | refine wp_mC.mpr ?_ | refine wp_acons.mpr ?_ | refine wp_anil.mpr ?_ | refine wp_callM.mpr ?_ | refine wp_kwM.mpr ?_ | refine wp_mtup.mpr ?_ | refine wp_mlst.mpr ?_ | refine wp_msl.mpr ?_ | refine wp_onone.mpr ?_ | refine wp_osome.mpr ?_ | refine wp_tst.mpr ?_ | refine wp_tru.mpr ?_ | refine wp_tnot.mpr ?_ | refine wp_tand.mpr ?_ | refine wp_tor.mpr ?_ | refine wp_vand.mpr ?_ | refine wp_vor.mpr ?_ | refine wp_vnot.mpr ?_ | refine wp_vif.mpr ?_ | refine wp_tyes.mpr ?_ | refine wp_mM.mpr ?_ | refine wp_mneg.mpr ?_ | refine wp_mrevL.mpr ?_ | refine wp_mlenSet.mpr ?_ | refine wp_misi.mpr ?_ | refine wp_dkInt.mpr ?_ | refine wp_tCells.mpr ?_ | refine wp_iseq.mpr ?_ | refine wp_itup.mpr ?_ | refine wp_istr.mpr ?_ | refine wp_irng1.mpr ?_ | refine wp_defM.mpr ?_ | refine wp_starM.mpr ?_ | refine wp_mdisp.mpr ?_ | refine wp_sasg.mpr ?_) | (first | refine ⟨_, rfl, ?_⟩ | refine ⟨_, _, rfl, ?_⟩ | refine ⟨rfl, ?_⟩ | refine ⟨by (exact Nat.le_of_ble_eq_true rfl), ?_⟩ | refine ⟨_, by (first | rfl | exact dMod_ok (by (((try dsimp only); omega))) | exact dDiv_ok (by (((try dsimp only); omega))) (by (((try dsimp only); omega))) | exact dMul_r (by (((try dsimp only); omega))) (by (((try dsimp only); omega))) | exact dMul_l (by (((try dsimp only); omega))) (by (((try dsimp only); omega))) | assumption), ?_⟩ | refine ⟨_, _, rfl, by (exact Nat.le_of_ble_eq_true rfl), by (exact Nat.le_of_ble_eq_true rfl), ?_⟩))
  have hh : (HD.take k).length ≤ 12 := by rw [List.length_take]; show min k 12 ≤ 12; omega
  refine drawn_ok (n := n + 179) (by omega) (wrd_take wH k) g1 fun hd w2 hdl hdw g2 => ?_
  have hd18 : hd.length ≤ 18 := by omega
  repeat (first | (with_reducible first | refine wp_sseq.mpr ?_ | refine wp_set.mpr ?_ | refine wp_sret.mpr ?_ | refine wp_sif.mpr ?_ | refine wp_snil.mpr ?_ | refine wp_sdrop.mpr ?_ | refine wp_sfor.mpr ?_ | refine wp_spar.mpr ?_ | refine wp_saug.mpr ?_ | refine wp_son.mpr ?_ | refine wp_sapp.mpr ?_ | refine wp_sDraws.mpr ?_ | refine wp_sPop.mpr ?_ | refine wp_sPush.mpr ?_ | refine wp_m2.mpr ?_ | refine wp_evarB.mpr ?_ | refine wp_evar.mpr ?_ | refine wp_cst.mpr ?_ | refine wp_mC.mpr ?_ | refine wp_acons.mpr ?_ | refine wp_anil.mpr ?_ | refine wp_callM.mpr ?_ | refine wp_kwM.mpr ?_ | refine wp_mtup.mpr ?_ | refine wp_mlst.mpr ?_ | refine wp_msl.mpr ?_ | refine wp_onone.mpr ?_ | refine wp_osome.mpr ?_ | refine wp_tst.mpr ?_ | refine wp_tru.mpr ?_ | refine wp_tnot.mpr ?_ | refine wp_tand.mpr ?_ | refine wp_tor.mpr ?_ | refine wp_vand.mpr ?_ | refine wp_vor.mpr ?_ | refine wp_vnot.mpr ?_ | refine wp_vif.mpr ?_ | refine wp_tyes.mpr ?_ | refine wp_mM.mpr ?_ | refine wp_mneg.mpr ?_ | refine wp_mrevL.mpr ?_ | refine wp_mlenSet.mpr ?_ | refine wp_misi.mpr ?_ | refine wp_dkInt.mpr ?_ | refine wp_tCells.mpr ?_ | refine wp_iseq.mpr ?_ | refine wp_itup.mpr ?_ | refine wp_istr.mpr ?_ | refine wp_irng1.mpr ?_ | refine wp_defM.mpr ?_ | refine wp_starM.mpr ?_ | refine wp_mdisp.mpr ?_ | refine wp_sasg.mpr ?_) | (first | refine ⟨_, rfl, ?_⟩ | refine ⟨_, _, rfl, ?_⟩ | refine ⟨rfl, ?_⟩ | refine ⟨by (exact Nat.le_of_ble_eq_true rfl), ?_⟩ | refine ⟨_, by (first | rfl | exact dMod_ok (by (((try dsimp only); omega))) | exact dDiv_ok (by (((try dsimp only); omega))) (by (((try dsimp only); omega))) | exact dMul_r (by (((try dsimp only); omega))) (by (((try dsimp only); omega))) | exact dMul_l (by (((try dsimp only); omega))) (by (((try dsimp only); omega))) | assumption), ?_⟩ | refine ⟨_, _, rfl, by (exact Nat.le_of_ble_eq_true rfl), by (exact Nat.le_of_ble_eq_true rfl), ?_⟩))
  refine lc_inv (fun pre acc w' => ∃ ls : List (List Nat), acc = ls.map tx ∧ ls.length = pre.length ∧ (∀ z ∈ ls, z.length ≤ 24 ∧ Wrd z) ∧ pre.length ≤ 5 ∧ Good (n + 10 + 20 * (5 - pre.length)) w') ?_
  repeat (first | (with_reducible first | refine wp_sseq.mpr ?_ | refine wp_set.mpr ?_ | refine wp_sret.mpr ?_ | refine wp_sif.mpr ?_ | refine wp_snil.mpr ?_ | refine wp_sdrop.mpr ?_ | refine wp_sfor.mpr ?_ | refine wp_spar.mpr ?_ | refine wp_saug.mpr ?_ | refine wp_son.mpr ?_ | refine wp_sapp.mpr ?_ | refine wp_sDraws.mpr ?_ | refine wp_sPop.mpr ?_ | refine wp_sPush.mpr ?_ | refine wp_m2.mpr ?_ | refine wp_evarB.mpr ?_ | refine wp_evar.mpr ?_ | refine wp_cst.mpr ?_ | refine wp_mC.mpr ?_ | refine wp_acons.mpr ?_ | refine wp_anil.mpr ?_ | refine wp_callM.mpr ?_ | refine wp_kwM.mpr ?_ | refine wp_mtup.mpr ?_ | refine wp_mlst.mpr ?_ | refine wp_msl.mpr ?_ | refine wp_onone.mpr ?_ | refine wp_osome.mpr ?_ | refine wp_tst.mpr ?_ | refine wp_tru.mpr ?_ | refine wp_tnot.mpr ?_ | refine wp_tand.mpr ?_ | refine wp_tor.mpr ?_ | refine wp_vand.mpr ?_ | refine wp_vor.mpr ?_ | refine wp_vnot.mpr ?_ | refine wp_vif.mpr ?_ | refine wp_tyes.mpr ?_ | refine wp_mM.mpr ?_ | refine wp_mneg.mpr ?_ | refine wp_mrevL.mpr ?_ | refine wp_mlenSet.mpr ?_ | refine wp_misi.mpr ?_ | refine wp_dkInt.mpr ?_ | refine wp_tCells.mpr ?_ | refine wp_iseq.mpr ?_ | refine wp_itup.mpr ?_ | refine wp_istr.mpr ?_ | refine wp_irng1.mpr ?_ | refine wp_defM.mpr ?_ | refine wp_starM.mpr ?_ | refine wp_mdisp.mpr ?_ | refine wp_sasg.mpr ?_) | (first | refine ⟨_, rfl, ?_⟩ | refine ⟨_, _, rfl, ?_⟩ | refine ⟨rfl, ?_⟩ | refine ⟨by (exact Nat.le_of_ble_eq_true rfl), ?_⟩ | refine ⟨_, by (first | rfl | exact dMod_ok (by (((try dsimp only); omega))) | exact dDiv_ok (by (((try dsimp only); omega))) (by (((try dsimp only); omega))) | exact dMul_r (by (((try dsimp only); omega))) (by (((try dsimp only); omega))) | exact dMul_l (by (((try dsimp only); omega))) (by (((try dsimp only); omega))) | assumption), ?_⟩ | refine ⟨_, _, rfl, by (exact Nat.le_of_ble_eq_true rfl), by (exact Nat.le_of_ble_eq_true rfl), ?_⟩))
  refine draw (n := n + 178) (by omega) (by omega) g2 fun j w3 j0 j1 g3 => ?_
  repeat (first | (with_reducible first | refine wp_sseq.mpr ?_ | refine wp_set.mpr ?_ | refine wp_sret.mpr ?_ | refine wp_sif.mpr ?_ | refine wp_snil.mpr ?_ | refine wp_sdrop.mpr ?_ | refine wp_sfor.mpr ?_ | refine wp_spar.mpr ?_ | refine wp_saug.mpr ?_ | refine wp_son.mpr ?_ | refine wp_sapp.mpr ?_ | refine wp_sDraws.mpr ?_ | refine wp_sPop.mpr ?_ | refine wp_sPush.mpr ?_ | refine wp_m2.mpr ?_ | refine wp_evarB.mpr ?_ | refine wp_evar.mpr ?_ | refine wp_cst.mpr ?_ | refine wp_mC.mpr ?_ | refine wp_acons.mpr ?_ | refine wp_anil.mpr ?_ | refine wp_callM.mpr ?_ | refine wp_kwM.mpr ?_ | refine wp_mtup.mpr ?_ | refine wp_mlst.mpr ?_ | refine wp_msl.mpr ?_ | refine wp_onone.mpr ?_ | refine wp_osome.mpr ?_ | refine wp_tst.mpr ?_ | refine wp_tru.mpr ?_ | refine wp_tnot.mpr ?_ | refine wp_tand.mpr ?_ | refine wp_tor.mpr ?_ | refine wp_vand.mpr ?_ | refine wp_vor.mpr ?_ | refine wp_vnot.mpr ?_ | refine wp_vif.mpr ?_ | refine wp_tyes.mpr ?_ | refine wp_mM.mpr ?_ | refine wp_mneg.mpr ?_ | refine wp_mrevL.mpr ?_ | refine wp_mlenSet.mpr ?_ | refine wp_misi.mpr ?_ | refine wp_dkInt.mpr ?_ | refine wp_tCells.mpr ?_ | refine wp_iseq.mpr ?_ | refine wp_itup.mpr ?_ | refine wp_istr.mpr ?_ | refine wp_irng1.mpr ?_ | refine wp_defM.mpr ?_ | refine wp_starM.mpr ?_ | refine wp_mdisp.mpr ?_ | refine wp_sasg.mpr ?_) | (first | refine ⟨_, rfl, ?_⟩ | refine ⟨_, _, rfl, ?_⟩ | refine ⟨rfl, ?_⟩ | refine ⟨by (exact Nat.le_of_ble_eq_true rfl), ?_⟩ | refine ⟨_, by (first | rfl | exact dMod_ok (by (((try dsimp only); omega))) | exact dDiv_ok (by (((try dsimp only); omega))) (by (((try dsimp only); omega))) | exact dMul_r (by (((try dsimp only); omega))) (by (((try dsimp only); omega))) | exact dMul_l (by (((try dsimp only); omega))) (by (((try dsimp only); omega))) | assumption), ?_⟩ | refine ⟨_, _, rfl, by (exact Nat.le_of_ble_eq_true rfl), by (exact Nat.le_of_ble_eq_true rfl), ?_⟩))
  refine ⟨by omega, by omega, ?_⟩
  have hr : ((List.range (1 + j).toNat).map fun i : Nat => D.int i).length = (1 + j).toNat := by rw [List.length_map, List.length_range]
  refine ⟨by rw [hr]; show _ ≤ 16777216; omega, ⟨[], rfl, rfl, (fun z hz => by cases hz), by (exact Nat.le_of_ble_eq_true rfl), g3.mono (by show n + 10 + 20 * (5 - 0) ≤ _; omega)⟩, by (exact Nat.le_of_ble_eq_true rfl), ?_, ?_⟩
  · rintro pre post acc d w' eq ⟨ls, rfl, h1, h2, h3, h4⟩
    have hp : pre.length + 1 ≤ 5 := by
      have := congrArg List.length eq
      rw [List.length_append, List.length_cons, hr] at this
      omega
    repeat (first | (with_reducible first | refine wp_sseq.mpr ?_ | refine wp_set.mpr ?_ | refine wp_sret.mpr ?_ | refine wp_sif.mpr ?_ | refine wp_snil.mpr ?_ | refine wp_sdrop.mpr ?_ | refine wp_sfor.mpr ?_ | refine wp_spar.mpr ?_ | refine wp_saug.mpr ?_ | refine wp_son.mpr ?_ | refine wp_sapp.mpr ?_ | refine wp_sDraws.mpr ?_ | refine wp_sPop.mpr ?_ | refine wp_sPush.mpr ?_ | refine wp_m2.mpr ?_ | refine wp_evarB.mpr ?_ | refine wp_evar.mpr ?_ | refine wp_cst.mpr ?_ | refine wp_mC.mpr ?_ | refine wp_acons.mpr ?_ | refine wp_anil.mpr ?_ | refine wp_callM.mpr ?_ | refine wp_kwM.mpr ?_ | refine wp_mtup.mpr ?_ | refine wp_mlst.mpr ?_ | refine wp_msl.mpr ?_ | refine wp_onone.mpr ?_ | refine wp_osome.mpr ?_ | refine wp_tst.mpr ?_ | refine wp_tru.mpr ?_ | refine wp_tnot.mpr ?_ | refine wp_tand.mpr ?_ | refine wp_tor.mpr ?_ | refine wp_vand.mpr ?_ | refine wp_vor.mpr ?_ | refine wp_vnot.mpr ?_ | refine wp_vif.mpr ?_ | refine wp_tyes.mpr ?_ | refine wp_mM.mpr ?_ | refine wp_mneg.mpr ?_ | refine wp_mrevL.mpr ?_ | refine wp_mlenSet.mpr ?_ | refine wp_misi.mpr ?_ | refine wp_dkInt.mpr ?_ | refine wp_tCells.mpr ?_ | refine wp_iseq.mpr ?_ | refine wp_itup.mpr ?_ | refine wp_istr.mpr ?_ | refine wp_irng1.mpr ?_ | refine wp_defM.mpr ?_ | refine wp_starM.mpr ?_ | refine wp_mdisp.mpr ?_ | refine wp_sasg.mpr ?_) | (first | refine ⟨_, rfl, ?_⟩ | refine ⟨_, _, rfl, ?_⟩ | refine ⟨rfl, ?_⟩ | refine ⟨by (exact Nat.le_of_ble_eq_true rfl), ?_⟩ | refine ⟨_, by (first | rfl | exact dMod_ok (by (((try dsimp only); omega))) | exact dDiv_ok (by (((try dsimp only); omega))) (by (((try dsimp only); omega))) | exact dMul_r (by (((try dsimp only); omega))) (by (((try dsimp only); omega))) | exact dMul_l (by (((try dsimp only); omega))) (by (((try dsimp only); omega))) | assumption), ?_⟩ | refine ⟨_, _, rfl, by (exact Nat.le_of_ble_eq_true rfl), by (exact Nat.le_of_ble_eq_true rfl), ?_⟩))
    refine drawn_ok (n := n + 10 + 20 * (5 - (pre.length + 1))) (by omega) hdw (h4.mono (by omega)) fun z w'' zl zw g' => ?_
    refine ⟨ls ++ [z], by simp, by simp [h1], fun x hx => ?_, by simpa using hp, by rw [List.length_append]; exact g'⟩
    rw [List.mem_append, List.mem_singleton] at hx
    rcases hx with hx | rfl
    · exact h2 x hx
    · exact ⟨by omega, zw⟩
  · rintro acc w' ⟨ls, rfl, h1, h2, h3, h4⟩
    rw [hr] at h1
    have h4 : Good n w' := h4.mono (by omega)
    obtain ⟨y, r, rfl⟩ : ∃ y r, ls = y :: r := by
      cases ls with
      | nil => rw [List.length_nil] at h1; omega
      | cons y r => exact ⟨y, r, rfl⟩
    have hrl : r.length ≤ 4 := by rw [List.length_cons] at h1; omega
    have hs : ∀ z ∈ y :: r, z.length ≤ 1000 := fun z hz => by have := (h2 z hz).1; omega
    have hyw := (h2 y List.mem_cons_self).2
    have hyl := (h2 y List.mem_cons_self).1
    repeat (first | (with_reducible first | refine wp_sseq.mpr ?_ | refine wp_set.mpr ?_ | refine wp_sret.mpr ?_ | refine wp_sif.mpr ?_ | refine wp_snil.mpr ?_ | refine wp_sdrop.mpr ?_ | refine wp_sfor.mpr ?_ | refine wp_spar.mpr ?_ | refine wp_saug.mpr ?_ | refine wp_son.mpr ?_ | refine wp_sapp.mpr ?_ | refine wp_sDraws.mpr ?_ | refine wp_sPop.mpr ?_ | refine wp_sPush.mpr ?_ | refine wp_m2.mpr ?_ | refine wp_evarB.mpr ?_ | refine wp_evar.mpr ?_ | refine wp_cst.mpr ?_ | refine wp_mC.mpr ?_ | refine wp_acons.mpr ?_ | refine wp_anil.mpr ?_ | refine wp_callM.mpr ?_ | refine wp_kwM.mpr ?_ | refine wp_mtup.mpr ?_ | refine wp_mlst.mpr ?_ | refine wp_msl.mpr ?_ | refine wp_onone.mpr ?_ | refine wp_osome.mpr ?_ | refine wp_tst.mpr ?_ | refine wp_tru.mpr ?_ | refine wp_tnot.mpr ?_ | refine wp_tand.mpr ?_ | refine wp_tor.mpr ?_ | refine wp_vand.mpr ?_ | refine wp_vor.mpr ?_ | refine wp_vnot.mpr ?_ | refine wp_vif.mpr ?_ | refine wp_tyes.mpr ?_ | refine wp_mM.mpr ?_ | refine wp_mneg.mpr ?_ | refine wp_mrevL.mpr ?_ | refine wp_mlenSet.mpr ?_ | refine wp_misi.mpr ?_ | refine wp_dkInt.mpr ?_ | refine wp_tCells.mpr ?_ | refine wp_iseq.mpr ?_ | refine wp_itup.mpr ?_ | refine wp_istr.mpr ?_ | refine wp_irng1.mpr ?_ | refine wp_defM.mpr ?_ | refine wp_starM.mpr ?_ | refine wp_mdisp.mpr ?_ | refine wp_sasg.mpr ?_) | (first | refine ⟨_, rfl, ?_⟩ | refine ⟨_, _, rfl, ?_⟩ | refine ⟨rfl, ?_⟩ | refine ⟨by (exact Nat.le_of_ble_eq_true rfl), ?_⟩ | refine ⟨_, by (first | rfl | exact dMod_ok (by (((try dsimp only); omega))) | exact dDiv_ok (by (((try dsimp only); omega))) (by (((try dsimp only); omega))) | exact dMul_r (by (((try dsimp only); omega))) (by (((try dsimp only); omega))) | exact dMul_l (by (((try dsimp only); omega))) (by (((try dsimp only); omega))) | assumption), ?_⟩ | refine ⟨_, _, rfl, by (exact Nat.le_of_ble_eq_true rfl), by (exact Nat.le_of_ble_eq_true rfl), ?_⟩))
    refine alike_ok (by omega) hs fun M hM => ?_
    repeat (first | (with_reducible first | refine wp_sseq.mpr ?_ | refine wp_set.mpr ?_ | refine wp_sret.mpr ?_ | refine wp_sif.mpr ?_ | refine wp_snil.mpr ?_ | refine wp_sdrop.mpr ?_ | refine wp_sfor.mpr ?_ | refine wp_spar.mpr ?_ | refine wp_saug.mpr ?_ | refine wp_son.mpr ?_ | refine wp_sapp.mpr ?_ | refine wp_sDraws.mpr ?_ | refine wp_sPop.mpr ?_ | refine wp_sPush.mpr ?_ | refine wp_m2.mpr ?_ | refine wp_evarB.mpr ?_ | refine wp_evar.mpr ?_ | refine wp_cst.mpr ?_ | refine wp_mC.mpr ?_ | refine wp_acons.mpr ?_ | refine wp_anil.mpr ?_ | refine wp_callM.mpr ?_ | refine wp_kwM.mpr ?_ | refine wp_mtup.mpr ?_ | refine wp_mlst.mpr ?_ | refine wp_msl.mpr ?_ | refine wp_onone.mpr ?_ | refine wp_osome.mpr ?_ | refine wp_tst.mpr ?_ | refine wp_tru.mpr ?_ | refine wp_tnot.mpr ?_ | refine wp_tand.mpr ?_ | refine wp_tor.mpr ?_ | refine wp_vand.mpr ?_ | refine wp_vor.mpr ?_ | refine wp_vnot.mpr ?_ | refine wp_vif.mpr ?_ | refine wp_tyes.mpr ?_ | refine wp_mM.mpr ?_ | refine wp_mneg.mpr ?_ | refine wp_mrevL.mpr ?_ | refine wp_mlenSet.mpr ?_ | refine wp_misi.mpr ?_ | refine wp_dkInt.mpr ?_ | refine wp_tCells.mpr ?_ | refine wp_iseq.mpr ?_ | refine wp_itup.mpr ?_ | refine wp_istr.mpr ?_ | refine wp_irng1.mpr ?_ | refine wp_defM.mpr ?_ | refine wp_starM.mpr ?_ | refine wp_mdisp.mpr ?_ | refine wp_sasg.mpr ?_) | (first | refine ⟨_, rfl, ?_⟩ | refine ⟨_, _, rfl, ?_⟩ | refine ⟨rfl, ?_⟩ | refine ⟨by (exact Nat.le_of_ble_eq_true rfl), ?_⟩ | refine ⟨_, by (first | rfl | exact dMod_ok (by (((try dsimp only); omega))) | exact dDiv_ok (by (((try dsimp only); omega))) (by (((try dsimp only); omega))) | exact dMul_r (by (((try dsimp only); omega))) (by (((try dsimp only); omega))) | exact dMul_l (by (((try dsimp only); omega))) (by (((try dsimp only); omega))) | assumption), ?_⟩ | refine ⟨_, _, rfl, by (exact Nat.le_of_ble_eq_true rfl), by (exact Nat.le_of_ble_eq_true rfl), ?_⟩))
    refine five_ok hrl hs fun m1 e1 => ?_
    obtain rfl := (com_uniq hM e1 fun z => Iff.rfl).1
    repeat (first | (with_reducible first | refine wp_sseq.mpr ?_ | refine wp_set.mpr ?_ | refine wp_sret.mpr ?_ | refine wp_sif.mpr ?_ | refine wp_snil.mpr ?_ | refine wp_sdrop.mpr ?_ | refine wp_sfor.mpr ?_ | refine wp_spar.mpr ?_ | refine wp_saug.mpr ?_ | refine wp_son.mpr ?_ | refine wp_sapp.mpr ?_ | refine wp_sDraws.mpr ?_ | refine wp_sPop.mpr ?_ | refine wp_sPush.mpr ?_ | refine wp_m2.mpr ?_ | refine wp_evarB.mpr ?_ | refine wp_evar.mpr ?_ | refine wp_cst.mpr ?_ | refine wp_mC.mpr ?_ | refine wp_acons.mpr ?_ | refine wp_anil.mpr ?_ | refine wp_callM.mpr ?_ | refine wp_kwM.mpr ?_ | refine wp_mtup.mpr ?_ | refine wp_mlst.mpr ?_ | refine wp_msl.mpr ?_ | refine wp_onone.mpr ?_ | refine wp_osome.mpr ?_ | refine wp_tst.mpr ?_ | refine wp_tru.mpr ?_ | refine wp_tnot.mpr ?_ | refine wp_tand.mpr ?_ | refine wp_tor.mpr ?_ | refine wp_vand.mpr ?_ | refine wp_vor.mpr ?_ | refine wp_vnot.mpr ?_ | refine wp_vif.mpr ?_ | refine wp_tyes.mpr ?_ | refine wp_mM.mpr ?_ | refine wp_mneg.mpr ?_ | refine wp_mrevL.mpr ?_ | refine wp_mlenSet.mpr ?_ | refine wp_misi.mpr ?_ | refine wp_dkInt.mpr ?_ | refine wp_tCells.mpr ?_ | refine wp_iseq.mpr ?_ | refine wp_itup.mpr ?_ | refine wp_istr.mpr ?_ | refine wp_irng1.mpr ?_ | refine wp_defM.mpr ?_ | refine wp_starM.mpr ?_ | refine wp_mdisp.mpr ?_ | refine wp_sasg.mpr ?_) | (first | refine ⟨_, rfl, ?_⟩ | refine ⟨_, _, rfl, ?_⟩ | refine ⟨rfl, ?_⟩ | refine ⟨by (exact Nat.le_of_ble_eq_true rfl), ?_⟩ | refine ⟨_, by (first | rfl | exact dMod_ok (by (((try dsimp only); omega))) | exact dDiv_ok (by (((try dsimp only); omega))) (by (((try dsimp only); omega))) | exact dMul_r (by (((try dsimp only); omega))) (by (((try dsimp only); omega))) | exact dMul_l (by (((try dsimp only); omega))) (by (((try dsimp only); omega))) | assumption), ?_⟩ | refine ⟨_, _, rfl, by (exact Nat.le_of_ble_eq_true rfl), by (exact Nat.le_of_ble_eq_true rfl), ?_⟩))
    obtain ⟨y', r', er⟩ : ∃ y' r', (y :: r).reverse = y' :: r' := by
      cases e : (y :: r).reverse with
      | nil => simp at e
      | cons a b => exact ⟨a, b, rfl⟩
    have em : ∀ z, z ∈ y :: r ↔ z ∈ y' :: r' := fun z => by rw [← er, List.mem_reverse]
    have erl : r'.length ≤ 4 := by
      have := congrArg List.length er
      rw [List.length_reverse, List.length_cons, List.length_cons] at this
      omega
    rw [← List.map_reverse, er]
    refine five_ok erl (fun z hz => hs z ((em z).mpr hz)) fun m2 e2 => ?_
    rw [← (com_uniq hM e2 em).2]
    repeat (first | (with_reducible first | refine wp_sseq.mpr ?_ | refine wp_set.mpr ?_ | refine wp_sret.mpr ?_ | refine wp_sif.mpr ?_ | refine wp_snil.mpr ?_ | refine wp_sdrop.mpr ?_ | refine wp_sfor.mpr ?_ | refine wp_spar.mpr ?_ | refine wp_saug.mpr ?_ | refine wp_son.mpr ?_ | refine wp_sapp.mpr ?_ | refine wp_sDraws.mpr ?_ | refine wp_sPop.mpr ?_ | refine wp_sPush.mpr ?_ | refine wp_m2.mpr ?_ | refine wp_evarB.mpr ?_ | refine wp_evar.mpr ?_ | refine wp_cst.mpr ?_ | refine wp_mC.mpr ?_ | refine wp_acons.mpr ?_ | refine wp_anil.mpr ?_ | refine wp_callM.mpr ?_ | refine wp_kwM.mpr ?_ | refine wp_mtup.mpr ?_ | refine wp_mlst.mpr ?_ | refine wp_msl.mpr ?_ | refine wp_onone.mpr ?_ | refine wp_osome.mpr ?_ | refine wp_tst.mpr ?_ | refine wp_tru.mpr ?_ | refine wp_tnot.mpr ?_ | refine wp_tand.mpr ?_ | refine wp_tor.mpr ?_ | refine wp_vand.mpr ?_ | refine wp_vor.mpr ?_ | refine wp_vnot.mpr ?_ | refine wp_vif.mpr ?_ | refine wp_tyes.mpr ?_ | refine wp_mM.mpr ?_ | refine wp_mneg.mpr ?_ | refine wp_mrevL.mpr ?_ | refine wp_mlenSet.mpr ?_ | refine wp_misi.mpr ?_ | refine wp_dkInt.mpr ?_ | refine wp_tCells.mpr ?_ | refine wp_iseq.mpr ?_ | refine wp_itup.mpr ?_ | refine wp_istr.mpr ?_ | refine wp_irng1.mpr ?_ | refine wp_defM.mpr ?_ | refine wp_starM.mpr ?_ | refine wp_mdisp.mpr ?_ | refine wp_sasg.mpr ?_) | (first | refine ⟨_, rfl, ?_⟩ | refine ⟨_, _, rfl, ?_⟩ | refine ⟨rfl, ?_⟩ | refine ⟨by (exact Nat.le_of_ble_eq_true rfl), ?_⟩ | refine ⟨_, by (first | rfl | exact dMod_ok (by (((try dsimp only); omega))) | exact dDiv_ok (by (((try dsimp only); omega))) (by (((try dsimp only); omega))) | exact dMul_r (by (((try dsimp only); omega))) (by (((try dsimp only); omega))) | exact dMul_l (by (((try dsimp only); omega))) (by (((try dsimp only); omega))) | assumption), ?_⟩ | refine ⟨_, _, rfl, by (exact Nat.le_of_ble_eq_true rfl), by (exact Nat.le_of_ble_eq_true rfl), ?_⟩))
    refine five_ok hrl hs fun m1 e1 => ?_
    obtain rfl := (com_uniq hM e1 fun z => Iff.rfl).1
    generalize ea : y.take M = a
    have haw : Wrd a := by rw [← ea]; exact wrd_take hyw M
    have hal : a.length ≤ 24 := by rw [← ea, List.length_take]; omega
    have na := Nice.tx (wrd_small haw) 0
    have nr := Nice.lst (NiceL.cons na (NiceL.cons na (NiceL.cons na (NiceL.nil 0))))
    have er1 := dRepr_nice nr (by decide) (by omega)
    repeat (first | (with_reducible first | refine wp_sseq.mpr ?_ | refine wp_set.mpr ?_ | refine wp_sret.mpr ?_ | refine wp_sif.mpr ?_ | refine wp_snil.mpr ?_ | refine wp_sdrop.mpr ?_ | refine wp_sfor.mpr ?_ | refine wp_spar.mpr ?_ | refine wp_saug.mpr ?_ | refine wp_son.mpr ?_ | refine wp_sapp.mpr ?_ | refine wp_sDraws.mpr ?_ | refine wp_sPop.mpr ?_ | refine wp_sPush.mpr ?_ | refine wp_m2.mpr ?_ | refine wp_evarB.mpr ?_ | refine wp_evar.mpr ?_ | refine wp_cst.mpr ?_ | refine wp_mC.mpr ?_ | refine wp_acons.mpr ?_ | refine wp_anil.mpr ?_ | refine wp_callM.mpr ?_ | refine wp_kwM.mpr ?_ | refine wp_mtup.mpr ?_ | refine wp_mlst.mpr ?_ | refine wp_msl.mpr ?_ | refine wp_onone.mpr ?_ | refine wp_osome.mpr ?_ | refine wp_tst.mpr ?_ | refine wp_tru.mpr ?_ | refine wp_tnot.mpr ?_ | refine wp_tand.mpr ?_ | refine wp_tor.mpr ?_ | refine wp_vand.mpr ?_ | refine wp_vor.mpr ?_ | refine wp_vnot.mpr ?_ | refine wp_vif.mpr ?_ | refine wp_tyes.mpr ?_ | refine wp_mM.mpr ?_ | refine wp_mneg.mpr ?_ | refine wp_mrevL.mpr ?_ | refine wp_mlenSet.mpr ?_ | refine wp_misi.mpr ?_ | refine wp_dkInt.mpr ?_ | refine wp_tCells.mpr ?_ | refine wp_iseq.mpr ?_ | refine wp_itup.mpr ?_ | refine wp_istr.mpr ?_ | refine wp_irng1.mpr ?_ | refine wp_defM.mpr ?_ | refine wp_starM.mpr ?_ | refine wp_mdisp.mpr ?_ | refine wp_sasg.mpr ?_) | (first | refine ⟨_, rfl, ?_⟩ | refine ⟨_, _, rfl, ?_⟩ | refine ⟨rfl, ?_⟩ | refine ⟨by (exact Nat.le_of_ble_eq_true rfl), ?_⟩ | refine ⟨_, by (first | rfl | exact dMod_ok (by (((try dsimp only); omega))) | exact dDiv_ok (by (((try dsimp only); omega))) (by (((try dsimp only); omega))) | exact dMul_r (by (((try dsimp only); omega))) (by (((try dsimp only); omega))) | exact dMul_l (by (((try dsimp only); omega))) (by (((try dsimp only); omega))) | assumption), ?_⟩ | refine ⟨_, _, rfl, by (exact Nat.le_of_ble_eq_true rfl), by (exact Nat.le_of_ble_eq_true rfl), ?_⟩))
    refine ⟨fun h => absurd h (by simp), fun _ => ?_⟩
    repeat (first | (with_reducible first | refine wp_sseq.mpr ?_ | refine wp_set.mpr ?_ | refine wp_sret.mpr ?_ | refine wp_sif.mpr ?_ | refine wp_snil.mpr ?_ | refine wp_sdrop.mpr ?_ | refine wp_sfor.mpr ?_ | refine wp_spar.mpr ?_ | refine wp_saug.mpr ?_ | refine wp_son.mpr ?_ | refine wp_sapp.mpr ?_ | refine wp_sDraws.mpr ?_ | refine wp_sPop.mpr ?_ | refine wp_sPush.mpr ?_ | refine wp_m2.mpr ?_ | refine wp_evarB.mpr ?_ | refine wp_evar.mpr ?_ | refine wp_cst.mpr ?_ | refine wp_mC.mpr ?_ | refine wp_acons.mpr ?_ | refine wp_anil.mpr ?_ | refine wp_callM.mpr ?_ | refine wp_kwM.mpr ?_ | refine wp_mtup.mpr ?_ | refine wp_mlst.mpr ?_ | refine wp_msl.mpr ?_ | refine wp_onone.mpr ?_ | refine wp_osome.mpr ?_ | refine wp_tst.mpr ?_ | refine wp_tru.mpr ?_ | refine wp_tnot.mpr ?_ | refine wp_tand.mpr ?_ | refine wp_tor.mpr ?_ | refine wp_vand.mpr ?_ | refine wp_vor.mpr ?_ | refine wp_vnot.mpr ?_ | refine wp_vif.mpr ?_ | refine wp_tyes.mpr ?_ | refine wp_mM.mpr ?_ | refine wp_mneg.mpr ?_ | refine wp_mrevL.mpr ?_ | refine wp_mlenSet.mpr ?_ | refine wp_misi.mpr ?_ | refine wp_dkInt.mpr ?_ | refine wp_tCells.mpr ?_ | refine wp_iseq.mpr ?_ | refine wp_itup.mpr ?_ | refine wp_istr.mpr ?_ | refine wp_irng1.mpr ?_ | refine wp_defM.mpr ?_ | refine wp_starM.mpr ?_ | refine wp_mdisp.mpr ?_ | refine wp_sasg.mpr ?_) | (first | refine ⟨_, rfl, ?_⟩ | refine ⟨_, _, rfl, ?_⟩ | refine ⟨rfl, ?_⟩ | refine ⟨by (exact Nat.le_of_ble_eq_true rfl), ?_⟩ | refine ⟨_, by (first | rfl | exact dMod_ok (by (((try dsimp only); omega))) | exact dDiv_ok (by (((try dsimp only); omega))) (by (((try dsimp only); omega))) | exact dMul_r (by (((try dsimp only); omega))) (by (((try dsimp only); omega))) | exact dMul_l (by (((try dsimp only); omega))) (by (((try dsimp only); omega))) | assumption), ?_⟩ | refine ⟨_, _, rfl, by (exact Nat.le_of_ble_eq_true rfl), by (exact Nat.le_of_ble_eq_true rfl), ?_⟩))
    refine ⟨_, dIx_lst0, ?_⟩
    repeat (first | (with_reducible first | refine wp_sseq.mpr ?_ | refine wp_set.mpr ?_ | refine wp_sret.mpr ?_ | refine wp_sif.mpr ?_ | refine wp_snil.mpr ?_ | refine wp_sdrop.mpr ?_ | refine wp_sfor.mpr ?_ | refine wp_spar.mpr ?_ | refine wp_saug.mpr ?_ | refine wp_son.mpr ?_ | refine wp_sapp.mpr ?_ | refine wp_sDraws.mpr ?_ | refine wp_sPop.mpr ?_ | refine wp_sPush.mpr ?_ | refine wp_m2.mpr ?_ | refine wp_evarB.mpr ?_ | refine wp_evar.mpr ?_ | refine wp_cst.mpr ?_ | refine wp_mC.mpr ?_ | refine wp_acons.mpr ?_ | refine wp_anil.mpr ?_ | refine wp_callM.mpr ?_ | refine wp_kwM.mpr ?_ | refine wp_mtup.mpr ?_ | refine wp_mlst.mpr ?_ | refine wp_msl.mpr ?_ | refine wp_onone.mpr ?_ | refine wp_osome.mpr ?_ | refine wp_tst.mpr ?_ | refine wp_tru.mpr ?_ | refine wp_tnot.mpr ?_ | refine wp_tand.mpr ?_ | refine wp_tor.mpr ?_ | refine wp_vand.mpr ?_ | refine wp_vor.mpr ?_ | refine wp_vnot.mpr ?_ | refine wp_vif.mpr ?_ | refine wp_tyes.mpr ?_ | refine wp_mM.mpr ?_ | refine wp_mneg.mpr ?_ | refine wp_mrevL.mpr ?_ | refine wp_mlenSet.mpr ?_ | refine wp_misi.mpr ?_ | refine wp_dkInt.mpr ?_ | refine wp_tCells.mpr ?_ | refine wp_iseq.mpr ?_ | refine wp_itup.mpr ?_ | refine wp_istr.mpr ?_ | refine wp_irng1.mpr ?_ | refine wp_defM.mpr ?_ | refine wp_starM.mpr ?_ | refine wp_mdisp.mpr ?_ | refine wp_sasg.mpr ?_) | (first | refine ⟨_, rfl, ?_⟩ | refine ⟨_, _, rfl, ?_⟩ | refine ⟨rfl, ?_⟩ | refine ⟨by (exact Nat.le_of_ble_eq_true rfl), ?_⟩ | refine ⟨_, by (first | rfl | exact dMod_ok (by (((try dsimp only); omega))) | exact dDiv_ok (by (((try dsimp only); omega))) (by (((try dsimp only); omega))) | exact dMul_r (by (((try dsimp only); omega))) (by (((try dsimp only); omega))) | exact dMul_l (by (((try dsimp only); omega))) (by (((try dsimp only); omega))) | assumption), ?_⟩ | refine ⟨_, _, rfl, by (exact Nat.le_of_ble_eq_true rfl), by (exact Nat.le_of_ble_eq_true rfl), ?_⟩))
    refine ⟨_, dIx_lst_last (by simp), ?_⟩
    obtain ⟨f, hf, ef⟩ : ∃ f, f ∈ y :: r ∧ ((y :: r).map tx).getLast (by simp) = tx f := by
      have h := List.getLast_mem (l := (y :: r).map tx) (by simp)
      obtain ⟨f, hf, e⟩ := List.mem_map.mp h
      exact ⟨f, hf, e.symm⟩
    have hfw := (h2 f hf).2
    have hfl := (h2 f hf).1
    have h2s : ∀ z ∈ y :: [f], z.length ≤ 1000 := fun z hz => by
      rw [List.mem_cons, List.mem_singleton] at hz
      rcases hz with rfl | rfl <;> omega
    rw [ef]
    repeat (first | (with_reducible first | refine wp_sseq.mpr ?_ | refine wp_set.mpr ?_ | refine wp_sret.mpr ?_ | refine wp_sif.mpr ?_ | refine wp_snil.mpr ?_ | refine wp_sdrop.mpr ?_ | refine wp_sfor.mpr ?_ | refine wp_spar.mpr ?_ | refine wp_saug.mpr ?_ | refine wp_son.mpr ?_ | refine wp_sapp.mpr ?_ | refine wp_sDraws.mpr ?_ | refine wp_sPop.mpr ?_ | refine wp_sPush.mpr ?_ | refine wp_m2.mpr ?_ | refine wp_evarB.mpr ?_ | refine wp_evar.mpr ?_ | refine wp_cst.mpr ?_ | refine wp_mC.mpr ?_ | refine wp_acons.mpr ?_ | refine wp_anil.mpr ?_ | refine wp_callM.mpr ?_ | refine wp_kwM.mpr ?_ | refine wp_mtup.mpr ?_ | refine wp_mlst.mpr ?_ | refine wp_msl.mpr ?_ | refine wp_onone.mpr ?_ | refine wp_osome.mpr ?_ | refine wp_tst.mpr ?_ | refine wp_tru.mpr ?_ | refine wp_tnot.mpr ?_ | refine wp_tand.mpr ?_ | refine wp_tor.mpr ?_ | refine wp_vand.mpr ?_ | refine wp_vor.mpr ?_ | refine wp_vnot.mpr ?_ | refine wp_vif.mpr ?_ | refine wp_tyes.mpr ?_ | refine wp_mM.mpr ?_ | refine wp_mneg.mpr ?_ | refine wp_mrevL.mpr ?_ | refine wp_mlenSet.mpr ?_ | refine wp_misi.mpr ?_ | refine wp_dkInt.mpr ?_ | refine wp_tCells.mpr ?_ | refine wp_iseq.mpr ?_ | refine wp_itup.mpr ?_ | refine wp_istr.mpr ?_ | refine wp_irng1.mpr ?_ | refine wp_defM.mpr ?_ | refine wp_starM.mpr ?_ | refine wp_mdisp.mpr ?_ | refine wp_sasg.mpr ?_) | (first | refine ⟨_, rfl, ?_⟩ | refine ⟨_, _, rfl, ?_⟩ | refine ⟨rfl, ?_⟩ | refine ⟨by (exact Nat.le_of_ble_eq_true rfl), ?_⟩ | refine ⟨_, by (first | rfl | exact dMod_ok (by (((try dsimp only); omega))) | exact dDiv_ok (by (((try dsimp only); omega))) (by (((try dsimp only); omega))) | exact dMul_r (by (((try dsimp only); omega))) (by (((try dsimp only); omega))) | exact dMul_l (by (((try dsimp only); omega))) (by (((try dsimp only); omega))) | assumption), ?_⟩ | refine ⟨_, _, rfl, by (exact Nat.le_of_ble_eq_true rfl), by (exact Nat.le_of_ble_eq_true rfl), ?_⟩))
    refine alike_ok (y := y) (r := [f]) (by show 1 ≤ 100; decide) h2s fun m3 e3 => ?_
    have h3 := e3.le
    have el : (y.take m3).length = m3 := by rw [List.length_take]; omega
    refine ⟨_, dLen_tx (by rw [el]; show _ ≤ 16777216; omega), ?_⟩
    rw [el]
    repeat (first | (with_reducible first | refine wp_sseq.mpr ?_ | refine wp_set.mpr ?_ | refine wp_sret.mpr ?_ | refine wp_sif.mpr ?_ | refine wp_snil.mpr ?_ | refine wp_sdrop.mpr ?_ | refine wp_sfor.mpr ?_ | refine wp_spar.mpr ?_ | refine wp_saug.mpr ?_ | refine wp_son.mpr ?_ | refine wp_sapp.mpr ?_ | refine wp_sDraws.mpr ?_ | refine wp_sPop.mpr ?_ | refine wp_sPush.mpr ?_ | refine wp_m2.mpr ?_ | refine wp_evarB.mpr ?_ | refine wp_evar.mpr ?_ | refine wp_cst.mpr ?_ | refine wp_mC.mpr ?_ | refine wp_acons.mpr ?_ | refine wp_anil.mpr ?_ | refine wp_callM.mpr ?_ | refine wp_kwM.mpr ?_ | refine wp_mtup.mpr ?_ | refine wp_mlst.mpr ?_ | refine wp_msl.mpr ?_ | refine wp_onone.mpr ?_ | refine wp_osome.mpr ?_ | refine wp_tst.mpr ?_ | refine wp_tru.mpr ?_ | refine wp_tnot.mpr ?_ | refine wp_tand.mpr ?_ | refine wp_tor.mpr ?_ | refine wp_vand.mpr ?_ | refine wp_vor.mpr ?_ | refine wp_vnot.mpr ?_ | refine wp_vif.mpr ?_ | refine wp_tyes.mpr ?_ | refine wp_mM.mpr ?_ | refine wp_mneg.mpr ?_ | refine wp_mrevL.mpr ?_ | refine wp_mlenSet.mpr ?_ | refine wp_misi.mpr ?_ | refine wp_dkInt.mpr ?_ | refine wp_tCells.mpr ?_ | refine wp_iseq.mpr ?_ | refine wp_itup.mpr ?_ | refine wp_istr.mpr ?_ | refine wp_irng1.mpr ?_ | refine wp_defM.mpr ?_ | refine wp_starM.mpr ?_ | refine wp_mdisp.mpr ?_ | refine wp_sasg.mpr ?_) | (first | refine ⟨_, rfl, ?_⟩ | refine ⟨_, _, rfl, ?_⟩ | refine ⟨rfl, ?_⟩ | refine ⟨by (exact Nat.le_of_ble_eq_true rfl), ?_⟩ | refine ⟨_, by (first | rfl | exact dMod_ok (by (((try dsimp only); omega))) | exact dDiv_ok (by (((try dsimp only); omega))) (by (((try dsimp only); omega))) | exact dMul_r (by (((try dsimp only); omega))) (by (((try dsimp only); omega))) | exact dMul_l (by (((try dsimp only); omega))) (by (((try dsimp only); omega))) | assumption), ?_⟩ | refine ⟨_, _, rfl, by (exact Nat.le_of_ble_eq_true rfl), by (exact Nat.le_of_ble_eq_true rfl), ?_⟩))
    refine ⟨_, dSl_from (by show _ ≤ 16777216; omega), ?_⟩
    repeat (first | (with_reducible first | refine wp_sseq.mpr ?_ | refine wp_set.mpr ?_ | refine wp_sret.mpr ?_ | refine wp_sif.mpr ?_ | refine wp_snil.mpr ?_ | refine wp_sdrop.mpr ?_ | refine wp_sfor.mpr ?_ | refine wp_spar.mpr ?_ | refine wp_saug.mpr ?_ | refine wp_son.mpr ?_ | refine wp_sapp.mpr ?_ | refine wp_sDraws.mpr ?_ | refine wp_sPop.mpr ?_ | refine wp_sPush.mpr ?_ | refine wp_m2.mpr ?_ | refine wp_evarB.mpr ?_ | refine wp_evar.mpr ?_ | refine wp_cst.mpr ?_ | refine wp_mC.mpr ?_ | refine wp_acons.mpr ?_ | refine wp_anil.mpr ?_ | refine wp_callM.mpr ?_ | refine wp_kwM.mpr ?_ | refine wp_mtup.mpr ?_ | refine wp_mlst.mpr ?_ | refine wp_msl.mpr ?_ | refine wp_onone.mpr ?_ | refine wp_osome.mpr ?_ | refine wp_tst.mpr ?_ | refine wp_tru.mpr ?_ | refine wp_tnot.mpr ?_ | refine wp_tand.mpr ?_ | refine wp_tor.mpr ?_ | refine wp_vand.mpr ?_ | refine wp_vor.mpr ?_ | refine wp_vnot.mpr ?_ | refine wp_vif.mpr ?_ | refine wp_tyes.mpr ?_ | refine wp_mM.mpr ?_ | refine wp_mneg.mpr ?_ | refine wp_mrevL.mpr ?_ | refine wp_mlenSet.mpr ?_ | refine wp_misi.mpr ?_ | refine wp_dkInt.mpr ?_ | refine wp_tCells.mpr ?_ | refine wp_iseq.mpr ?_ | refine wp_itup.mpr ?_ | refine wp_istr.mpr ?_ | refine wp_irng1.mpr ?_ | refine wp_defM.mpr ?_ | refine wp_starM.mpr ?_ | refine wp_mdisp.mpr ?_ | refine wp_sasg.mpr ?_) | (first | refine ⟨_, rfl, ?_⟩ | refine ⟨_, _, rfl, ?_⟩ | refine ⟨rfl, ?_⟩ | refine ⟨by (exact Nat.le_of_ble_eq_true rfl), ?_⟩ | refine ⟨_, by (first | rfl | exact dMod_ok (by (((try dsimp only); omega))) | exact dDiv_ok (by (((try dsimp only); omega))) (by (((try dsimp only); omega))) | exact dMul_r (by (((try dsimp only); omega))) (by (((try dsimp only); omega))) | exact dMul_l (by (((try dsimp only); omega))) (by (((try dsimp only); omega))) | assumption), ?_⟩ | refine ⟨_, _, rfl, by (exact Nat.le_of_ble_eq_true rfl), by (exact Nat.le_of_ble_eq_true rfl), ?_⟩))
    refine ⟨_, dSl_from (by show _ ≤ 16777216; omega), ?_⟩
    repeat (first | (with_reducible first | refine wp_sseq.mpr ?_ | refine wp_set.mpr ?_ | refine wp_sret.mpr ?_ | refine wp_sif.mpr ?_ | refine wp_snil.mpr ?_ | refine wp_sdrop.mpr ?_ | refine wp_sfor.mpr ?_ | refine wp_spar.mpr ?_ | refine wp_saug.mpr ?_ | refine wp_son.mpr ?_ | refine wp_sapp.mpr ?_ | refine wp_sDraws.mpr ?_ | refine wp_sPop.mpr ?_ | refine wp_sPush.mpr ?_ | refine wp_m2.mpr ?_ | refine wp_evarB.mpr ?_ | refine wp_evar.mpr ?_ | refine wp_cst.mpr ?_ | refine wp_mC.mpr ?_ | refine wp_acons.mpr ?_ | refine wp_anil.mpr ?_ | refine wp_callM.mpr ?_ | refine wp_kwM.mpr ?_ | refine wp_mtup.mpr ?_ | refine wp_mlst.mpr ?_ | refine wp_msl.mpr ?_ | refine wp_onone.mpr ?_ | refine wp_osome.mpr ?_ | refine wp_tst.mpr ?_ | refine wp_tru.mpr ?_ | refine wp_tnot.mpr ?_ | refine wp_tand.mpr ?_ | refine wp_tor.mpr ?_ | refine wp_vand.mpr ?_ | refine wp_vor.mpr ?_ | refine wp_vnot.mpr ?_ | refine wp_vif.mpr ?_ | refine wp_tyes.mpr ?_ | refine wp_mM.mpr ?_ | refine wp_mneg.mpr ?_ | refine wp_mrevL.mpr ?_ | refine wp_mlenSet.mpr ?_ | refine wp_misi.mpr ?_ | refine wp_dkInt.mpr ?_ | refine wp_tCells.mpr ?_ | refine wp_iseq.mpr ?_ | refine wp_itup.mpr ?_ | refine wp_istr.mpr ?_ | refine wp_irng1.mpr ?_ | refine wp_defM.mpr ?_ | refine wp_starM.mpr ?_ | refine wp_mdisp.mpr ?_ | refine wp_sasg.mpr ?_) | (first | refine ⟨_, rfl, ?_⟩ | refine ⟨_, _, rfl, ?_⟩ | refine ⟨rfl, ?_⟩ | refine ⟨by (exact Nat.le_of_ble_eq_true rfl), ?_⟩ | refine ⟨_, by (first | rfl | exact dMod_ok (by (((try dsimp only); omega))) | exact dDiv_ok (by (((try dsimp only); omega))) (by (((try dsimp only); omega))) | exact dMul_r (by (((try dsimp only); omega))) (by (((try dsimp only); omega))) | exact dMul_l (by (((try dsimp only); omega))) (by (((try dsimp only); omega))) | assumption), ?_⟩ | refine ⟨_, _, rfl, by (exact Nat.le_of_ble_eq_true rfl), by (exact Nat.le_of_ble_eq_true rfl), ?_⟩))
    have dl : y.length ≤ 1000 ∧ f.length ≤ 1000 := ⟨by omega, by omega⟩
    refine delay_ok dl.1 dl.2 fun k1 d1 => ?_
    obtain rfl := (com_uniq e3 d1 fun z => Iff.rfl).1
    repeat (first | (with_reducible first | refine wp_sseq.mpr ?_ | refine wp_set.mpr ?_ | refine wp_sret.mpr ?_ | refine wp_sif.mpr ?_ | refine wp_snil.mpr ?_ | refine wp_sdrop.mpr ?_ | refine wp_sfor.mpr ?_ | refine wp_spar.mpr ?_ | refine wp_saug.mpr ?_ | refine wp_son.mpr ?_ | refine wp_sapp.mpr ?_ | refine wp_sDraws.mpr ?_ | refine wp_sPop.mpr ?_ | refine wp_sPush.mpr ?_ | refine wp_m2.mpr ?_ | refine wp_evarB.mpr ?_ | refine wp_evar.mpr ?_ | refine wp_cst.mpr ?_ | refine wp_mC.mpr ?_ | refine wp_acons.mpr ?_ | refine wp_anil.mpr ?_ | refine wp_callM.mpr ?_ | refine wp_kwM.mpr ?_ | refine wp_mtup.mpr ?_ | refine wp_mlst.mpr ?_ | refine wp_msl.mpr ?_ | refine wp_onone.mpr ?_ | refine wp_osome.mpr ?_ | refine wp_tst.mpr ?_ | refine wp_tru.mpr ?_ | refine wp_tnot.mpr ?_ | refine wp_tand.mpr ?_ | refine wp_tor.mpr ?_ | refine wp_vand.mpr ?_ | refine wp_vor.mpr ?_ | refine wp_vnot.mpr ?_ | refine wp_vif.mpr ?_ | refine wp_tyes.mpr ?_ | refine wp_mM.mpr ?_ | refine wp_mneg.mpr ?_ | refine wp_mrevL.mpr ?_ | refine wp_mlenSet.mpr ?_ | refine wp_misi.mpr ?_ | refine wp_dkInt.mpr ?_ | refine wp_tCells.mpr ?_ | refine wp_iseq.mpr ?_ | refine wp_itup.mpr ?_ | refine wp_istr.mpr ?_ | refine wp_irng1.mpr ?_ | refine wp_defM.mpr ?_ | refine wp_starM.mpr ?_ | refine wp_mdisp.mpr ?_ | refine wp_sasg.mpr ?_) | (first | refine ⟨_, rfl, ?_⟩ | refine ⟨_, _, rfl, ?_⟩ | refine ⟨rfl, ?_⟩ | refine ⟨by (exact Nat.le_of_ble_eq_true rfl), ?_⟩ | refine ⟨_, by (first | rfl | exact dMod_ok (by (((try dsimp only); omega))) | exact dDiv_ok (by (((try dsimp only); omega))) (by (((try dsimp only); omega))) | exact dMul_r (by (((try dsimp only); omega))) (by (((try dsimp only); omega))) | exact dMul_l (by (((try dsimp only); omega))) (by (((try dsimp only); omega))) | assumption), ?_⟩ | refine ⟨_, _, rfl, by (exact Nat.le_of_ble_eq_true rfl), by (exact Nat.le_of_ble_eq_true rfl), ?_⟩))
    refine delay_ok (a := y) (b := f) dl.1 dl.2 fun k1 d1 => ?_
    obtain rfl := (com_uniq e3 d1 fun z => Iff.rfl).1
    repeat (first | (with_reducible first | refine wp_sseq.mpr ?_ | refine wp_set.mpr ?_ | refine wp_sret.mpr ?_ | refine wp_sif.mpr ?_ | refine wp_snil.mpr ?_ | refine wp_sdrop.mpr ?_ | refine wp_sfor.mpr ?_ | refine wp_spar.mpr ?_ | refine wp_saug.mpr ?_ | refine wp_son.mpr ?_ | refine wp_sapp.mpr ?_ | refine wp_sDraws.mpr ?_ | refine wp_sPop.mpr ?_ | refine wp_sPush.mpr ?_ | refine wp_m2.mpr ?_ | refine wp_evarB.mpr ?_ | refine wp_evar.mpr ?_ | refine wp_cst.mpr ?_ | refine wp_mC.mpr ?_ | refine wp_acons.mpr ?_ | refine wp_anil.mpr ?_ | refine wp_callM.mpr ?_ | refine wp_kwM.mpr ?_ | refine wp_mtup.mpr ?_ | refine wp_mlst.mpr ?_ | refine wp_msl.mpr ?_ | refine wp_onone.mpr ?_ | refine wp_osome.mpr ?_ | refine wp_tst.mpr ?_ | refine wp_tru.mpr ?_ | refine wp_tnot.mpr ?_ | refine wp_tand.mpr ?_ | refine wp_tor.mpr ?_ | refine wp_vand.mpr ?_ | refine wp_vor.mpr ?_ | refine wp_vnot.mpr ?_ | refine wp_vif.mpr ?_ | refine wp_tyes.mpr ?_ | refine wp_mM.mpr ?_ | refine wp_mneg.mpr ?_ | refine wp_mrevL.mpr ?_ | refine wp_mlenSet.mpr ?_ | refine wp_misi.mpr ?_ | refine wp_dkInt.mpr ?_ | refine wp_tCells.mpr ?_ | refine wp_iseq.mpr ?_ | refine wp_itup.mpr ?_ | refine wp_istr.mpr ?_ | refine wp_irng1.mpr ?_ | refine wp_defM.mpr ?_ | refine wp_starM.mpr ?_ | refine wp_mdisp.mpr ?_ | refine wp_sasg.mpr ?_) | (first | refine ⟨_, rfl, ?_⟩ | refine ⟨_, _, rfl, ?_⟩ | refine ⟨rfl, ?_⟩ | refine ⟨by (exact Nat.le_of_ble_eq_true rfl), ?_⟩ | refine ⟨_, by (first | rfl | exact dMod_ok (by (((try dsimp only); omega))) | exact dDiv_ok (by (((try dsimp only); omega))) (by (((try dsimp only); omega))) | exact dMul_r (by (((try dsimp only); omega))) (by (((try dsimp only); omega))) | exact dMul_l (by (((try dsimp only); omega))) (by (((try dsimp only); omega))) | assumption), ?_⟩ | refine ⟨_, _, rfl, by (exact Nat.le_of_ble_eq_true rfl), by (exact Nat.le_of_ble_eq_true rfl), ?_⟩))
    refine delay_ok dl.2 dl.1 fun k1 d1 => ?_
    obtain rfl := (com_uniq e3 d1 fun z => by simp [or_comm]).1
    generalize ep : y.drop m3 = p
    generalize eq : f.drop m3 = q
    have pw : Wrd p := by rw [← ep]; exact wrd_drop hyw m3
    have qw : Wrd q := by rw [← eq]; exact wrd_drop hfw m3
    have pl : p.length ≤ 24 := by rw [← ep, List.length_drop]; omega
    have ql : q.length ≤ 24 := by rw [← eq, List.length_drop]; omega
    have np := Nice.tx (wrd_small pw) 0
    have nq := Nice.tx (wrd_small qw) 0
    have t1 := Nice.tup (NiceL.cons np (NiceL.cons nq (NiceL.nil 0)))
    have t2 := Nice.tup (NiceL.cons nq (NiceL.cons np (NiceL.nil 0)))
    have nr2 := Nice.lst (NiceL.cons t1 (NiceL.cons t1 (NiceL.cons t2 (NiceL.nil 1))))
    have er2 := dRepr_nice nr2 (by decide) (by omega)
    repeat (first | (with_reducible first | refine wp_sseq.mpr ?_ | refine wp_set.mpr ?_ | refine wp_sret.mpr ?_ | refine wp_sif.mpr ?_ | refine wp_snil.mpr ?_ | refine wp_sdrop.mpr ?_ | refine wp_sfor.mpr ?_ | refine wp_spar.mpr ?_ | refine wp_saug.mpr ?_ | refine wp_son.mpr ?_ | refine wp_sapp.mpr ?_ | refine wp_sDraws.mpr ?_ | refine wp_sPop.mpr ?_ | refine wp_sPush.mpr ?_ | refine wp_m2.mpr ?_ | refine wp_evarB.mpr ?_ | refine wp_evar.mpr ?_ | refine wp_cst.mpr ?_ | refine wp_mC.mpr ?_ | refine wp_acons.mpr ?_ | refine wp_anil.mpr ?_ | refine wp_callM.mpr ?_ | refine wp_kwM.mpr ?_ | refine wp_mtup.mpr ?_ | refine wp_mlst.mpr ?_ | refine wp_msl.mpr ?_ | refine wp_onone.mpr ?_ | refine wp_osome.mpr ?_ | refine wp_tst.mpr ?_ | refine wp_tru.mpr ?_ | refine wp_tnot.mpr ?_ | refine wp_tand.mpr ?_ | refine wp_tor.mpr ?_ | refine wp_vand.mpr ?_ | refine wp_vor.mpr ?_ | refine wp_vnot.mpr ?_ | refine wp_vif.mpr ?_ | refine wp_tyes.mpr ?_ | refine wp_mM.mpr ?_ | refine wp_mneg.mpr ?_ | refine wp_mrevL.mpr ?_ | refine wp_mlenSet.mpr ?_ | refine wp_misi.mpr ?_ | refine wp_dkInt.mpr ?_ | refine wp_tCells.mpr ?_ | refine wp_iseq.mpr ?_ | refine wp_itup.mpr ?_ | refine wp_istr.mpr ?_ | refine wp_irng1.mpr ?_ | refine wp_defM.mpr ?_ | refine wp_starM.mpr ?_ | refine wp_mdisp.mpr ?_ | refine wp_sasg.mpr ?_) | (first | refine ⟨_, rfl, ?_⟩ | refine ⟨_, _, rfl, ?_⟩ | refine ⟨rfl, ?_⟩ | refine ⟨by (exact Nat.le_of_ble_eq_true rfl), ?_⟩ | refine ⟨_, by (first | rfl | exact dMod_ok (by (((try dsimp only); omega))) | exact dDiv_ok (by (((try dsimp only); omega))) (by (((try dsimp only); omega))) | exact dMul_r (by (((try dsimp only); omega))) (by (((try dsimp only); omega))) | exact dMul_l (by (((try dsimp only); omega))) (by (((try dsimp only); omega))) | assumption), ?_⟩ | refine ⟨_, _, rfl, by (exact Nat.le_of_ble_eq_true rfl), by (exact Nat.le_of_ble_eq_true rfl), ?_⟩))
    have z := hP w' h4
    rw [decide_eq_true rfl]
    exact z
end K02

set_option Elab.async false
set_option linter.all false
set_option maxRecDepth 100000
set_option maxHeartbeats 400000
/-! K02N: the law of k02 in plain Lean, its end. -/
namespace K02
open PySem PySem.Spec PyProof.Rows L2 L3 Pre
def LET : Str := Str.ofString "abcdefghijklmnopqrstuvwxyz"
def inL (c : Nat) : Bool := !(Builtin.Str.occurrences LET (sgn c) 0 LET.length 1).isEmpty
def isw : D → Bool
  | .str z => z.cps.toList.all inL
  | _ => false
def okD : D → Bool
  | .str z => decide (z.length ≤ 1000)
  | .non | .bl _ | .int _ | .tup _ | .lst _ | .dic _ => true
  | _ => false
theorem isword_ok {d : D} {w : Wd} {P : D → Wd → Prop} (hd : okD d = true) (hP : P (.bl (isw d)) w) : Ok (m_is_word [d] w) P := by
  unfold m_is_word g_is_word
  cases d with
  | str z =>
    have hz : z.length ≤ 1000 := of_decide_eq_true hd
    repeat (first | (with_reducible first | refine wp_sseq.mpr ?_ | refine wp_set.mpr ?_ | refine wp_sret.mpr ?_ | refine wp_sif.mpr ?_ | refine wp_snil.mpr ?_ | refine wp_sdrop.mpr ?_ | refine wp_sfor.mpr ?_ | refine wp_spar.mpr ?_ | refine wp_saug.mpr ?_ | refine wp_son.mpr ?_ | refine wp_sapp.mpr ?_ | refine wp_sDraws.mpr ?_ | refine wp_sPop.mpr ?_ | refine wp_sPush.mpr ?_ | refine wp_m2.mpr ?_ | refine wp_evarB.mpr ?_ | refine wp_evar.mpr ?_ | refine wp_cst.mpr ?_ | refine wp_mC.mpr ?_ | refine wp_acons.mpr ?_ | refine wp_anil.mpr ?_ | refine wp_callM.mpr ?_ | refine wp_kwM.mpr ?_ | refine wp_mtup.mpr ?_ | refine wp_mlst.mpr ?_ | refine wp_msl.mpr ?_ | refine wp_onone.mpr ?_ | refine wp_osome.mpr ?_ | refine wp_tst.mpr ?_ | refine wp_tru.mpr ?_ | refine wp_tnot.mpr ?_ | refine wp_tand.mpr ?_ | refine wp_tor.mpr ?_ | refine wp_vand.mpr ?_ | refine wp_vor.mpr ?_ | refine wp_vnot.mpr ?_ | refine wp_vif.mpr ?_ | refine wp_tyes.mpr ?_ | refine wp_mM.mpr ?_ | refine wp_mneg.mpr ?_ | refine wp_mrevL.mpr ?_ | refine wp_mlenSet.mpr ?_ | refine wp_misi.mpr ?_ | refine wp_dkInt.mpr ?_ | refine wp_tCells.mpr ?_ | refine wp_iseq.mpr ?_ | refine wp_itup.mpr ?_ | refine wp_istr.mpr ?_ | refine wp_irng1.mpr ?_ | refine wp_defM.mpr ?_ | refine wp_starM.mpr ?_ | refine wp_mdisp.mpr ?_ | refine wp_sasg.mpr ?_) | (first | refine ⟨_, rfl, ?_⟩ | refine ⟨_, _, rfl, ?_⟩ | refine ⟨rfl, ?_⟩ | refine ⟨by (exact Nat.le_of_ble_eq_true rfl), ?_⟩ | refine ⟨_, by (first | rfl | exact dMod_ok (by (((try dsimp only); omega))) | exact dDiv_ok (by (((try dsimp only); omega))) (by (((try dsimp only); omega))) | exact dMul_r (by (((try dsimp only); omega))) (by (((try dsimp only); omega))) | exact dMul_l (by (((try dsimp only); omega))) (by (((try dsimp only); omega))) | assumption), ?_⟩ | refine ⟨_, _, rfl, by (exact Nat.le_of_ble_eq_true rfl), by (exact Nat.le_of_ble_eq_true rfl), ?_⟩))
    refine ⟨fun _ => ?_, fun h => absurd h (by decide)⟩
    repeat (first | (with_reducible first | refine wp_sseq.mpr ?_ | refine wp_set.mpr ?_ | refine wp_sret.mpr ?_ | refine wp_sif.mpr ?_ | refine wp_snil.mpr ?_ | refine wp_sdrop.mpr ?_ | refine wp_sfor.mpr ?_ | refine wp_spar.mpr ?_ | refine wp_saug.mpr ?_ | refine wp_son.mpr ?_ | refine wp_sapp.mpr ?_ | refine wp_sDraws.mpr ?_ | refine wp_sPop.mpr ?_ | refine wp_sPush.mpr ?_ | refine wp_m2.mpr ?_ | refine wp_evarB.mpr ?_ | refine wp_evar.mpr ?_ | refine wp_cst.mpr ?_ | refine wp_mC.mpr ?_ | refine wp_acons.mpr ?_ | refine wp_anil.mpr ?_ | refine wp_callM.mpr ?_ | refine wp_kwM.mpr ?_ | refine wp_mtup.mpr ?_ | refine wp_mlst.mpr ?_ | refine wp_msl.mpr ?_ | refine wp_onone.mpr ?_ | refine wp_osome.mpr ?_ | refine wp_tst.mpr ?_ | refine wp_tru.mpr ?_ | refine wp_tnot.mpr ?_ | refine wp_tand.mpr ?_ | refine wp_tor.mpr ?_ | refine wp_vand.mpr ?_ | refine wp_vor.mpr ?_ | refine wp_vnot.mpr ?_ | refine wp_vif.mpr ?_ | refine wp_tyes.mpr ?_ | refine wp_mM.mpr ?_ | refine wp_mneg.mpr ?_ | refine wp_mrevL.mpr ?_ | refine wp_mlenSet.mpr ?_ | refine wp_misi.mpr ?_ | refine wp_dkInt.mpr ?_ | refine wp_tCells.mpr ?_ | refine wp_iseq.mpr ?_ | refine wp_itup.mpr ?_ | refine wp_istr.mpr ?_ | refine wp_irng1.mpr ?_ | refine wp_defM.mpr ?_ | refine wp_starM.mpr ?_ | refine wp_mdisp.mpr ?_ | refine wp_sasg.mpr ?_) | (first | refine ⟨_, rfl, ?_⟩ | refine ⟨_, _, rfl, ?_⟩ | refine ⟨rfl, ?_⟩ | refine ⟨by (exact Nat.le_of_ble_eq_true rfl), ?_⟩ | refine ⟨_, by (first | rfl | exact dMod_ok (by (((try dsimp only); omega))) | exact dDiv_ok (by (((try dsimp only); omega))) (by (((try dsimp only); omega))) | exact dMul_r (by (((try dsimp only); omega))) (by (((try dsimp only); omega))) | exact dMul_l (by (((try dsimp only); omega))) (by (((try dsimp only); omega))) | assumption), ?_⟩ | refine ⟨_, _, rfl, by (exact Nat.le_of_ble_eq_true rfl), by (exact Nat.le_of_ble_eq_true rfl), ?_⟩))
    refine lc_inv (fun pre acc w' => w' = w ∧ acc = pre.map fun d => match d with | .str s => .bl (!(Builtin.Str.occurrences LET s 0 LET.length 1).isEmpty) | _ => .non) ?_
    repeat (first | (with_reducible first | refine wp_sseq.mpr ?_ | refine wp_set.mpr ?_ | refine wp_sret.mpr ?_ | refine wp_sif.mpr ?_ | refine wp_snil.mpr ?_ | refine wp_sdrop.mpr ?_ | refine wp_sfor.mpr ?_ | refine wp_spar.mpr ?_ | refine wp_saug.mpr ?_ | refine wp_son.mpr ?_ | refine wp_sapp.mpr ?_ | refine wp_sDraws.mpr ?_ | refine wp_sPop.mpr ?_ | refine wp_sPush.mpr ?_ | refine wp_m2.mpr ?_ | refine wp_evarB.mpr ?_ | refine wp_evar.mpr ?_ | refine wp_cst.mpr ?_ | refine wp_mC.mpr ?_ | refine wp_acons.mpr ?_ | refine wp_anil.mpr ?_ | refine wp_callM.mpr ?_ | refine wp_kwM.mpr ?_ | refine wp_mtup.mpr ?_ | refine wp_mlst.mpr ?_ | refine wp_msl.mpr ?_ | refine wp_onone.mpr ?_ | refine wp_osome.mpr ?_ | refine wp_tst.mpr ?_ | refine wp_tru.mpr ?_ | refine wp_tnot.mpr ?_ | refine wp_tand.mpr ?_ | refine wp_tor.mpr ?_ | refine wp_vand.mpr ?_ | refine wp_vor.mpr ?_ | refine wp_vnot.mpr ?_ | refine wp_vif.mpr ?_ | refine wp_tyes.mpr ?_ | refine wp_mM.mpr ?_ | refine wp_mneg.mpr ?_ | refine wp_mrevL.mpr ?_ | refine wp_mlenSet.mpr ?_ | refine wp_misi.mpr ?_ | refine wp_dkInt.mpr ?_ | refine wp_tCells.mpr ?_ | refine wp_iseq.mpr ?_ | refine wp_itup.mpr ?_ | refine wp_istr.mpr ?_ | refine wp_irng1.mpr ?_ | refine wp_defM.mpr ?_ | refine wp_starM.mpr ?_ | refine wp_mdisp.mpr ?_ | refine wp_sasg.mpr ?_) | (first | refine ⟨_, rfl, ?_⟩ | refine ⟨_, _, rfl, ?_⟩ | refine ⟨rfl, ?_⟩ | refine ⟨by (exact Nat.le_of_ble_eq_true rfl), ?_⟩ | refine ⟨_, by (first | rfl | exact dMod_ok (by (((try dsimp only); omega))) | exact dDiv_ok (by (((try dsimp only); omega))) (by (((try dsimp only); omega))) | exact dMul_r (by (((try dsimp only); omega))) (by (((try dsimp only); omega))) | exact dMul_l (by (((try dsimp only); omega))) (by (((try dsimp only); omega))) | assumption), ?_⟩ | refine ⟨_, _, rfl, by (exact Nat.le_of_ble_eq_true rfl), by (exact Nat.le_of_ble_eq_true rfl), ?_⟩))
    refine ⟨?_, ⟨rfl, rfl⟩, by (exact Nat.le_of_ble_eq_true rfl), ?_, ?_⟩
    · rw [List.length_map, Array.length_toList]; exact Nat.le_trans hz (by decide)
    · rintro pre post acc d w' eq ⟨rfl, rfl⟩
      obtain ⟨c, hc, rfl⟩ : ∃ c, c ∈ z.cps.toList ∧ D.str (sgn c) = d := List.mem_map.mp (by rw [eq]; simp)
      repeat (first | (with_reducible first | refine wp_sseq.mpr ?_ | refine wp_set.mpr ?_ | refine wp_sret.mpr ?_ | refine wp_sif.mpr ?_ | refine wp_snil.mpr ?_ | refine wp_sdrop.mpr ?_ | refine wp_sfor.mpr ?_ | refine wp_spar.mpr ?_ | refine wp_saug.mpr ?_ | refine wp_son.mpr ?_ | refine wp_sapp.mpr ?_ | refine wp_sDraws.mpr ?_ | refine wp_sPop.mpr ?_ | refine wp_sPush.mpr ?_ | refine wp_m2.mpr ?_ | refine wp_evarB.mpr ?_ | refine wp_evar.mpr ?_ | refine wp_cst.mpr ?_ | refine wp_mC.mpr ?_ | refine wp_acons.mpr ?_ | refine wp_anil.mpr ?_ | refine wp_callM.mpr ?_ | refine wp_kwM.mpr ?_ | refine wp_mtup.mpr ?_ | refine wp_mlst.mpr ?_ | refine wp_msl.mpr ?_ | refine wp_onone.mpr ?_ | refine wp_osome.mpr ?_ | refine wp_tst.mpr ?_ | refine wp_tru.mpr ?_ | refine wp_tnot.mpr ?_ | refine wp_tand.mpr ?_ | refine wp_tor.mpr ?_ | refine wp_vand.mpr ?_ | refine wp_vor.mpr ?_ | refine wp_vnot.mpr ?_ | refine wp_vif.mpr ?_ | refine wp_tyes.mpr ?_ | refine wp_mM.mpr ?_ | refine wp_mneg.mpr ?_ | refine wp_mrevL.mpr ?_ | refine wp_mlenSet.mpr ?_ | refine wp_misi.mpr ?_ | refine wp_dkInt.mpr ?_ | refine wp_tCells.mpr ?_ | refine wp_iseq.mpr ?_ | refine wp_itup.mpr ?_ | refine wp_istr.mpr ?_ | refine wp_irng1.mpr ?_ | refine wp_defM.mpr ?_ | refine wp_starM.mpr ?_ | refine wp_mdisp.mpr ?_ | refine wp_sasg.mpr ?_) | (first | refine ⟨_, rfl, ?_⟩ | refine ⟨_, _, rfl, ?_⟩ | refine ⟨rfl, ?_⟩ | refine ⟨by (exact Nat.le_of_ble_eq_true rfl), ?_⟩ | refine ⟨_, by (first | rfl | exact dMod_ok (by (((try dsimp only); omega))) | exact dDiv_ok (by (((try dsimp only); omega))) (by (((try dsimp only); omega))) | exact dMul_r (by (((try dsimp only); omega))) (by (((try dsimp only); omega))) | exact dMul_l (by (((try dsimp only); omega))) (by (((try dsimp only); omega))) | assumption), ?_⟩ | refine ⟨_, _, rfl, by (exact Nat.le_of_ble_eq_true rfl), by (exact Nat.le_of_ble_eq_true rfl), ?_⟩))
      rw [List.map_append]
      rfl
    · rintro acc w' ⟨rfl, rfl⟩
      have e : ((z.cps.toList.map fun c => D.str (sgn c)).map fun d => match d with | .str s => .bl (!(Builtin.Str.occurrences LET s 0 LET.length 1).isEmpty) | _ => .non) = (z.cps.toList.map inL).map D.bl := by
        rw [List.map_map, List.map_map]
        rfl
      rw [e]
      repeat (first | (with_reducible first | refine wp_sseq.mpr ?_ | refine wp_set.mpr ?_ | refine wp_sret.mpr ?_ | refine wp_sif.mpr ?_ | refine wp_snil.mpr ?_ | refine wp_sdrop.mpr ?_ | refine wp_sfor.mpr ?_ | refine wp_spar.mpr ?_ | refine wp_saug.mpr ?_ | refine wp_son.mpr ?_ | refine wp_sapp.mpr ?_ | refine wp_sDraws.mpr ?_ | refine wp_sPop.mpr ?_ | refine wp_sPush.mpr ?_ | refine wp_m2.mpr ?_ | refine wp_evarB.mpr ?_ | refine wp_evar.mpr ?_ | refine wp_cst.mpr ?_ | refine wp_mC.mpr ?_ | refine wp_acons.mpr ?_ | refine wp_anil.mpr ?_ | refine wp_callM.mpr ?_ | refine wp_kwM.mpr ?_ | refine wp_mtup.mpr ?_ | refine wp_mlst.mpr ?_ | refine wp_msl.mpr ?_ | refine wp_onone.mpr ?_ | refine wp_osome.mpr ?_ | refine wp_tst.mpr ?_ | refine wp_tru.mpr ?_ | refine wp_tnot.mpr ?_ | refine wp_tand.mpr ?_ | refine wp_tor.mpr ?_ | refine wp_vand.mpr ?_ | refine wp_vor.mpr ?_ | refine wp_vnot.mpr ?_ | refine wp_vif.mpr ?_ | refine wp_tyes.mpr ?_ | refine wp_mM.mpr ?_ | refine wp_mneg.mpr ?_ | refine wp_mrevL.mpr ?_ | refine wp_mlenSet.mpr ?_ | refine wp_misi.mpr ?_ | refine wp_dkInt.mpr ?_ | refine wp_tCells.mpr ?_ | refine wp_iseq.mpr ?_ | refine wp_itup.mpr ?_ | refine wp_istr.mpr ?_ | refine wp_irng1.mpr ?_ | refine wp_defM.mpr ?_ | refine wp_starM.mpr ?_ | refine wp_mdisp.mpr ?_ | refine wp_sasg.mpr ?_) | (first | refine ⟨_, rfl, ?_⟩ | refine ⟨_, _, rfl, ?_⟩ | refine ⟨rfl, ?_⟩ | refine ⟨by (exact Nat.le_of_ble_eq_true rfl), ?_⟩ | refine ⟨_, by (first | rfl | exact dMod_ok (by (((try dsimp only); omega))) | exact dDiv_ok (by (((try dsimp only); omega))) (by (((try dsimp only); omega))) | exact dMul_r (by (((try dsimp only); omega))) (by (((try dsimp only); omega))) | exact dMul_l (by (((try dsimp only); omega))) (by (((try dsimp only); omega))) | assumption), ?_⟩ | refine ⟨_, _, rfl, by (exact Nat.le_of_ble_eq_true rfl), by (exact Nat.le_of_ble_eq_true rfl), ?_⟩))
      refine ⟨_, (show dAll [.lst ((z.cps.toList.map inL).map D.bl)] = some (.bl ((z.cps.toList.map inL).all id)) from by unfold dAll; dsimp only; rw [blsD_map]; rfl), ?_⟩
      have e2 : (z.cps.toList.map inL).all id = isw (.str z) := by rw [List.all_map]; rfl
      rw [e2]
      exact hP
  | non | bl _ | int _ | tup _ | lst _ | dic _ =>
    repeat (first | (with_reducible first | refine wp_sseq.mpr ?_ | refine wp_set.mpr ?_ | refine wp_sret.mpr ?_ | refine wp_sif.mpr ?_ | refine wp_snil.mpr ?_ | refine wp_sdrop.mpr ?_ | refine wp_sfor.mpr ?_ | refine wp_spar.mpr ?_ | refine wp_saug.mpr ?_ | refine wp_son.mpr ?_ | refine wp_sapp.mpr ?_ | refine wp_sDraws.mpr ?_ | refine wp_sPop.mpr ?_ | refine wp_sPush.mpr ?_ | refine wp_m2.mpr ?_ | refine wp_evarB.mpr ?_ | refine wp_evar.mpr ?_ | refine wp_cst.mpr ?_ | refine wp_mC.mpr ?_ | refine wp_acons.mpr ?_ | refine wp_anil.mpr ?_ | refine wp_callM.mpr ?_ | refine wp_kwM.mpr ?_ | refine wp_mtup.mpr ?_ | refine wp_mlst.mpr ?_ | refine wp_msl.mpr ?_ | refine wp_onone.mpr ?_ | refine wp_osome.mpr ?_ | refine wp_tst.mpr ?_ | refine wp_tru.mpr ?_ | refine wp_tnot.mpr ?_ | refine wp_tand.mpr ?_ | refine wp_tor.mpr ?_ | refine wp_vand.mpr ?_ | refine wp_vor.mpr ?_ | refine wp_vnot.mpr ?_ | refine wp_vif.mpr ?_ | refine wp_tyes.mpr ?_ | refine wp_mM.mpr ?_ | refine wp_mneg.mpr ?_ | refine wp_mrevL.mpr ?_ | refine wp_mlenSet.mpr ?_ | refine wp_misi.mpr ?_ | refine wp_dkInt.mpr ?_ | refine wp_tCells.mpr ?_ | refine wp_iseq.mpr ?_ | refine wp_itup.mpr ?_ | refine wp_istr.mpr ?_ | refine wp_irng1.mpr ?_ | refine wp_defM.mpr ?_ | refine wp_starM.mpr ?_ | refine wp_mdisp.mpr ?_ | refine wp_sasg.mpr ?_) | (first | refine ⟨_, rfl, ?_⟩ | refine ⟨_, _, rfl, ?_⟩ | refine ⟨rfl, ?_⟩ | refine ⟨by (exact Nat.le_of_ble_eq_true rfl), ?_⟩ | refine ⟨_, by (first | rfl | exact dMod_ok (by (((try dsimp only); omega))) | exact dDiv_ok (by (((try dsimp only); omega))) (by (((try dsimp only); omega))) | exact dMul_r (by (((try dsimp only); omega))) (by (((try dsimp only); omega))) | exact dMul_l (by (((try dsimp only); omega))) (by (((try dsimp only); omega))) | assumption), ?_⟩ | refine ⟨_, _, rfl, by (exact Nat.le_of_ble_eq_true rfl), by (exact Nat.le_of_ble_eq_true rfl), ?_⟩))
    exact ⟨fun h => absurd h (by decide), fun _ => hP⟩
  | _ => cases hd
theorem inL_word : ∀ c ∈ [97, 98, 99, 120, 121, 122], inL c = true := by decide +kernel
theorem isw_tx {l : List Nat} (h : Wrd l) : isw (tx l) = true := by
  show l.all inL = true
  rw [List.all_eq_true]
  exact fun c hc => inL_word c (h c hc)
theorem inL_bad : ∀ c ∈ [32, 45, 65, 49, 10, 126], inL c = false := by decide +kernel
theorem isw_bad {l : List Nat} {c : Nat} (hc : c ∈ l) (h : inL c = false) : isw (tx l) = false := by
  show l.all inL = false
  rw [List.all_eq_false]
  exact ⟨c, hc, by rw [h]; decide⟩
def WC : List D := [.str (Str.ofString ""), .str (Str.ofString "a"), .str (Str.ofString "z"), .str ⟨(List.replicate 30 (Str.ofString "abz").cps).foldl (· ++ ·) #[]⟩]
def OC : List D := [.non, .bl true, .int 0, .int (10 ^ 39), .tup [], .tup [.str (Str.ofString "a")], .lst [.str (Str.ofString "a")], .dic [], .str (Str.ofString "A"), .str (Str.ofString "a b"), .str (Str.ofString " "), .str (Str.ofString "a\n"), .str (Str.ofString "-"), .str (Str.ofString "a1"), .str (Str.ofString "_"), .str (Str.ofString "~"), .str (Str.ofString "aZ")]
theorem wc_ok : WC.all okD = true := by decide +kernel
theorem oc_ok : OC.all okD = true := by decide +kernel
theorem wc_is : WC.map isw = [true, true, true, true] := by decide +kernel
theorem oc_is : OC.map isw = List.replicate 17 false := by decide +kernel
theorem abc_eq : D.str (Str.ofString "abc") = tx [97, 98, 99] := congrArg D.str (by decide +kernel)
theorem bad_eq : D.str (Str.ofString " -A1\n~") = tx [32, 45, 65, 49, 10, 126] := congrArg D.str (by decide +kernel)
theorem wrd_abc : Wrd [97, 98, 99] := by unfold Wrd; decide
end K02

set_option Elab.async false
set_option linter.all false
set_option maxRecDepth 100000
set_option maxHeartbeats 400000
/-! K02P: the law of k02 in plain Lean: True for every deck. -/
namespace K02
open PySem PySem.Spec PyProof.Rows L2 L3 Pre
theorem mul30 : dMul (.str (Str.ofString "abz")) (.int 30) = some (.str ⟨(List.replicate 30 (Str.ofString "abz").cps).foldl (· ++ ·) #[]⟩) := by
  have h : 2 ≤ (30 : Int) ∧ (30 : Int) ≤ 1000 ∧ 0 < (Str.ofString "abz").length ∧ (Str.ofString "abz").length ≤ 1000 := by decide +kernel
  unfold dMul
  dsimp only
  rw [if_pos h]
  rfl
theorem pow39 : dPow (.int 10) (.int 39) = some (.int (10 ^ 39)) := by
  have h : 0 ≤ (39 : Int) ∧ (39 : Int) ≤ 1000000 ∧ (10 : Int).natAbs < 2 ^ 64 := by decide +kernel
  unfold dPow
  dsimp only
  rw [if_pos h]
  rfl
theorem add1 {i : Int} : dAdd (.int i) (.int 1) = some (.int (i + 1)) := rfl
def ff (b : Bool) : D := .lst [.bl b, .bl b]
theorem tail_ok {z1 zz : List Nat} {o p q : Option (Bool × D)} {w : Wd} (h1 : Wrd z1) (l1 : z1.length ≤ 1000) (hz : isw (tx zz) = false) (lz : zz.length ≤ 1000) :
    Sx ((sseq (sasg (mlc (iseq (m2 dAdd (evarB 3) (evarB 4))) (gn 8) tyes (mlst (acons (callM m_is_word 1 (acons (evar 8) anil)) (acons (kwM m_is_word 1 kw_is_word_0 (acons (evar 8) anil)) anil))) [8]) (gn 7))
    (sret (m2 dEqA (mC dRepr (acons (evarB 7) anil)) (mC dRepr (acons (m2 dAdd (m2 dMul (mlst (acons (mlst (acons (cst (.bl true)) (acons (cst (.bl true)) anil))) anil)) (cst (.int 5))) (m2 dMul (mlst (acons (mlst (acons (cst (.bl false)) (acons (cst (.bl false)) anil))) anil)) (mC dLen (acons (evarB 4) anil)))) anil))))) [none, some (false, .deck), o, some (false, .lst (WC ++ [tx z1])), some (true, .lst (OC ++ [tx zz])), p, q, none, none] w) no2 no2 no2 fun d _ => d = .bl true := by
  have hok : ∀ d ∈ (WC ++ [tx z1]) ++ (OC ++ [tx zz]), okD d = true := fun d hd => by
    simp only [List.mem_append, List.mem_singleton] at hd
    rcases hd with (hd | rfl) | (hd | rfl)
    · exact List.all_eq_true.mp wc_ok d hd
    · show decide ((mkT z1).length ≤ 1000) = true
      rw [mkT_len]; exact decide_eq_true l1
    · exact List.all_eq_true.mp oc_ok d hd
    · show decide ((mkT zz).length ≤ 1000) = true
      rw [mkT_len]; exact decide_eq_true lz
  have hlen : ((WC ++ [tx z1]) ++ (OC ++ [tx zz])).length = 23 := rfl
  have hmap : ((WC ++ [tx z1]) ++ (OC ++ [tx zz])).map (fun d => ff (isw d)) = (List.replicate 5 [ff true]).flatten ++ (List.replicate 18 [ff false]).flatten := by
    have e1 : ∀ l : List D, l.map (fun d => ff (isw d)) = (l.map isw).map ff := fun l => by rw [List.map_map]; rfl
    rw [e1]
    simp only [List.map_append, wc_is, oc_is, List.map_cons, List.map_nil, isw_tx h1, hz]
    rfl
  have hO18 : (OC ++ [tx zz]).length = 18 := rfl
  clear hlen
  generalize OC ++ [tx zz] = O at hok hmap hO18 ⊢
  repeat (first | (with_reducible first | refine wp_sseq.mpr ?_ | refine wp_set.mpr ?_ | refine wp_sret.mpr ?_ | refine wp_sif.mpr ?_ | refine wp_snil.mpr ?_ | refine wp_sdrop.mpr ?_ | refine wp_sfor.mpr ?_ | refine wp_spar.mpr ?_ | refine wp_saug.mpr ?_ | refine wp_son.mpr ?_ | refine wp_sapp.mpr ?_ | refine wp_sDraws.mpr ?_ | refine wp_sPop.mpr ?_ | refine wp_sPush.mpr ?_ | refine wp_m2.mpr ?_ | refine wp_evarB.mpr ?_ | refine wp_evar.mpr ?_ | refine wp_cst.mpr ?_ | refine wp_mC.mpr ?_ | refine wp_acons.mpr ?_ | refine wp_anil.mpr ?_ | refine wp_callM.mpr ?_ | refine wp_kwM.mpr ?_ | refine wp_mtup.mpr ?_ | refine wp_mlst.mpr ?_ | refine wp_msl.mpr ?_ | refine wp_onone.mpr ?_ | refine wp_osome.mpr ?_ | refine wp_tst.mpr ?_ | refine wp_tru.mpr ?_ | refine wp_tnot.mpr ?_ | refine wp_tand.mpr ?_ | refine wp_tor.mpr ?_ | refine wp_vand.mpr ?_ | refine wp_vor.mpr ?_ | refine wp_vnot.mpr ?_ | refine wp_vif.mpr ?_ | refine wp_tyes.mpr ?_ | refine wp_mM.mpr ?_ | refine wp_mneg.mpr ?_ | refine wp_mrevL.mpr ?_ | refine wp_mlenSet.mpr ?_ | refine wp_misi.mpr ?_ | refine wp_dkInt.mpr ?_ | refine wp_tCells.mpr ?_ | refine wp_iseq.mpr ?_ | refine wp_itup.mpr ?_ | refine wp_istr.mpr ?_ | refine wp_irng1.mpr ?_ | refine wp_defM.mpr ?_ | refine wp_starM.mpr ?_ | refine wp_mdisp.mpr ?_ | refine wp_sasg.mpr ?_) | (first | refine ⟨_, rfl, ?_⟩ | refine ⟨_, _, rfl, ?_⟩ | refine ⟨rfl, ?_⟩ | refine ⟨by (exact Nat.le_of_ble_eq_true rfl), ?_⟩ | refine ⟨_, by (first | rfl | exact dMod_ok (by (((try dsimp only); omega))) | exact dDiv_ok (by (((try dsimp only); omega))) (by (((try dsimp only); omega))) | exact dMul_r (by (((try dsimp only); omega))) (by (((try dsimp only); omega))) | exact dMul_l (by (((try dsimp only); omega))) (by (((try dsimp only); omega))) | assumption), ?_⟩ | refine ⟨_, _, rfl, by (exact Nat.le_of_ble_eq_true rfl), by (exact Nat.le_of_ble_eq_true rfl), ?_⟩))
  refine lc_inv (fun pre acc w' => w' = w ∧ acc = pre.map fun d => ff (isw d)) ?_
  repeat (first | (with_reducible first | refine wp_sseq.mpr ?_ | refine wp_set.mpr ?_ | refine wp_sret.mpr ?_ | refine wp_sif.mpr ?_ | refine wp_snil.mpr ?_ | refine wp_sdrop.mpr ?_ | refine wp_sfor.mpr ?_ | refine wp_spar.mpr ?_ | refine wp_saug.mpr ?_ | refine wp_son.mpr ?_ | refine wp_sapp.mpr ?_ | refine wp_sDraws.mpr ?_ | refine wp_sPop.mpr ?_ | refine wp_sPush.mpr ?_ | refine wp_m2.mpr ?_ | refine wp_evarB.mpr ?_ | refine wp_evar.mpr ?_ | refine wp_cst.mpr ?_ | refine wp_mC.mpr ?_ | refine wp_acons.mpr ?_ | refine wp_anil.mpr ?_ | refine wp_callM.mpr ?_ | refine wp_kwM.mpr ?_ | refine wp_mtup.mpr ?_ | refine wp_mlst.mpr ?_ | refine wp_msl.mpr ?_ | refine wp_onone.mpr ?_ | refine wp_osome.mpr ?_ | refine wp_tst.mpr ?_ | refine wp_tru.mpr ?_ | refine wp_tnot.mpr ?_ | refine wp_tand.mpr ?_ | refine wp_tor.mpr ?_ | refine wp_vand.mpr ?_ | refine wp_vor.mpr ?_ | refine wp_vnot.mpr ?_ | refine wp_vif.mpr ?_ | refine wp_tyes.mpr ?_ | refine wp_mM.mpr ?_ | refine wp_mneg.mpr ?_ | refine wp_mrevL.mpr ?_ | refine wp_mlenSet.mpr ?_ | refine wp_misi.mpr ?_ | refine wp_dkInt.mpr ?_ | refine wp_tCells.mpr ?_ | refine wp_iseq.mpr ?_ | refine wp_itup.mpr ?_ | refine wp_istr.mpr ?_ | refine wp_irng1.mpr ?_ | refine wp_defM.mpr ?_ | refine wp_starM.mpr ?_ | refine wp_mdisp.mpr ?_ | refine wp_sasg.mpr ?_) | (first | refine ⟨_, rfl, ?_⟩ | refine ⟨_, _, rfl, ?_⟩ | refine ⟨rfl, ?_⟩ | refine ⟨by (exact Nat.le_of_ble_eq_true rfl), ?_⟩ | refine ⟨_, by (first | rfl | exact dMod_ok (by (((try dsimp only); omega))) | exact dDiv_ok (by (((try dsimp only); omega))) (by (((try dsimp only); omega))) | exact dMul_r (by (((try dsimp only); omega))) (by (((try dsimp only); omega))) | exact dMul_l (by (((try dsimp only); omega))) (by (((try dsimp only); omega))) | assumption), ?_⟩ | refine ⟨_, _, rfl, by (exact Nat.le_of_ble_eq_true rfl), by (exact Nat.le_of_ble_eq_true rfl), ?_⟩))
  refine ⟨_, dAdd_lst (by rw [hO18]; show (5 + 18 : Nat) ≤ 16777216; decide), ?_⟩
  repeat (first | (with_reducible first | refine wp_sseq.mpr ?_ | refine wp_set.mpr ?_ | refine wp_sret.mpr ?_ | refine wp_sif.mpr ?_ | refine wp_snil.mpr ?_ | refine wp_sdrop.mpr ?_ | refine wp_sfor.mpr ?_ | refine wp_spar.mpr ?_ | refine wp_saug.mpr ?_ | refine wp_son.mpr ?_ | refine wp_sapp.mpr ?_ | refine wp_sDraws.mpr ?_ | refine wp_sPop.mpr ?_ | refine wp_sPush.mpr ?_ | refine wp_m2.mpr ?_ | refine wp_evarB.mpr ?_ | refine wp_evar.mpr ?_ | refine wp_cst.mpr ?_ | refine wp_mC.mpr ?_ | refine wp_acons.mpr ?_ | refine wp_anil.mpr ?_ | refine wp_callM.mpr ?_ | refine wp_kwM.mpr ?_ | refine wp_mtup.mpr ?_ | refine wp_mlst.mpr ?_ | refine wp_msl.mpr ?_ | refine wp_onone.mpr ?_ | refine wp_osome.mpr ?_ | refine wp_tst.mpr ?_ | refine wp_tru.mpr ?_ | refine wp_tnot.mpr ?_ | refine wp_tand.mpr ?_ | refine wp_tor.mpr ?_ | refine wp_vand.mpr ?_ | refine wp_vor.mpr ?_ | refine wp_vnot.mpr ?_ | refine wp_vif.mpr ?_ | refine wp_tyes.mpr ?_ | refine wp_mM.mpr ?_ | refine wp_mneg.mpr ?_ | refine wp_mrevL.mpr ?_ | refine wp_mlenSet.mpr ?_ | refine wp_misi.mpr ?_ | refine wp_dkInt.mpr ?_ | refine wp_tCells.mpr ?_ | refine wp_iseq.mpr ?_ | refine wp_itup.mpr ?_ | refine wp_istr.mpr ?_ | refine wp_irng1.mpr ?_ | refine wp_defM.mpr ?_ | refine wp_starM.mpr ?_ | refine wp_mdisp.mpr ?_ | refine wp_sasg.mpr ?_) | (first | refine ⟨_, rfl, ?_⟩ | refine ⟨_, _, rfl, ?_⟩ | refine ⟨rfl, ?_⟩ | refine ⟨by (exact Nat.le_of_ble_eq_true rfl), ?_⟩ | refine ⟨_, by (first | rfl | exact dMod_ok (by (((try dsimp only); omega))) | exact dDiv_ok (by (((try dsimp only); omega))) (by (((try dsimp only); omega))) | exact dMul_r (by (((try dsimp only); omega))) (by (((try dsimp only); omega))) | exact dMul_l (by (((try dsimp only); omega))) (by (((try dsimp only); omega))) | assumption), ?_⟩ | refine ⟨_, _, rfl, by (exact Nat.le_of_ble_eq_true rfl), by (exact Nat.le_of_ble_eq_true rfl), ?_⟩))
  refine ⟨by rw [List.length_append, hO18]; show (5 + 18 : Nat) ≤ 16777216; decide, ⟨rfl, rfl⟩, by (exact Nat.le_of_ble_eq_true rfl), ?_, ?_⟩
  · rintro pre post acc d w' eq ⟨rfl, rfl⟩
    have hd := hok d (by rw [eq]; simp)
    repeat (first | (with_reducible first | refine wp_sseq.mpr ?_ | refine wp_set.mpr ?_ | refine wp_sret.mpr ?_ | refine wp_sif.mpr ?_ | refine wp_snil.mpr ?_ | refine wp_sdrop.mpr ?_ | refine wp_sfor.mpr ?_ | refine wp_spar.mpr ?_ | refine wp_saug.mpr ?_ | refine wp_son.mpr ?_ | refine wp_sapp.mpr ?_ | refine wp_sDraws.mpr ?_ | refine wp_sPop.mpr ?_ | refine wp_sPush.mpr ?_ | refine wp_m2.mpr ?_ | refine wp_evarB.mpr ?_ | refine wp_evar.mpr ?_ | refine wp_cst.mpr ?_ | refine wp_mC.mpr ?_ | refine wp_acons.mpr ?_ | refine wp_anil.mpr ?_ | refine wp_callM.mpr ?_ | refine wp_kwM.mpr ?_ | refine wp_mtup.mpr ?_ | refine wp_mlst.mpr ?_ | refine wp_msl.mpr ?_ | refine wp_onone.mpr ?_ | refine wp_osome.mpr ?_ | refine wp_tst.mpr ?_ | refine wp_tru.mpr ?_ | refine wp_tnot.mpr ?_ | refine wp_tand.mpr ?_ | refine wp_tor.mpr ?_ | refine wp_vand.mpr ?_ | refine wp_vor.mpr ?_ | refine wp_vnot.mpr ?_ | refine wp_vif.mpr ?_ | refine wp_tyes.mpr ?_ | refine wp_mM.mpr ?_ | refine wp_mneg.mpr ?_ | refine wp_mrevL.mpr ?_ | refine wp_mlenSet.mpr ?_ | refine wp_misi.mpr ?_ | refine wp_dkInt.mpr ?_ | refine wp_tCells.mpr ?_ | refine wp_iseq.mpr ?_ | refine wp_itup.mpr ?_ | refine wp_istr.mpr ?_ | refine wp_irng1.mpr ?_ | refine wp_defM.mpr ?_ | refine wp_starM.mpr ?_ | refine wp_mdisp.mpr ?_ | refine wp_sasg.mpr ?_) | (first | refine ⟨_, rfl, ?_⟩ | refine ⟨_, _, rfl, ?_⟩ | refine ⟨rfl, ?_⟩ | refine ⟨by (exact Nat.le_of_ble_eq_true rfl), ?_⟩ | refine ⟨_, by (first | rfl | exact dMod_ok (by (((try dsimp only); omega))) | exact dDiv_ok (by (((try dsimp only); omega))) (by (((try dsimp only); omega))) | exact dMul_r (by (((try dsimp only); omega))) (by (((try dsimp only); omega))) | exact dMul_l (by (((try dsimp only); omega))) (by (((try dsimp only); omega))) | assumption), ?_⟩ | refine ⟨_, _, rfl, by (exact Nat.le_of_ble_eq_true rfl), by (exact Nat.le_of_ble_eq_true rfl), ?_⟩))
    refine isword_ok hd ?_
    repeat (first | (with_reducible first | refine wp_sseq.mpr ?_ | refine wp_set.mpr ?_ | refine wp_sret.mpr ?_ | refine wp_sif.mpr ?_ | refine wp_snil.mpr ?_ | refine wp_sdrop.mpr ?_ | refine wp_sfor.mpr ?_ | refine wp_spar.mpr ?_ | refine wp_saug.mpr ?_ | refine wp_son.mpr ?_ | refine wp_sapp.mpr ?_ | refine wp_sDraws.mpr ?_ | refine wp_sPop.mpr ?_ | refine wp_sPush.mpr ?_ | refine wp_m2.mpr ?_ | refine wp_evarB.mpr ?_ | refine wp_evar.mpr ?_ | refine wp_cst.mpr ?_ | refine wp_mC.mpr ?_ | refine wp_acons.mpr ?_ | refine wp_anil.mpr ?_ | refine wp_callM.mpr ?_ | refine wp_kwM.mpr ?_ | refine wp_mtup.mpr ?_ | refine wp_mlst.mpr ?_ | refine wp_msl.mpr ?_ | refine wp_onone.mpr ?_ | refine wp_osome.mpr ?_ | refine wp_tst.mpr ?_ | refine wp_tru.mpr ?_ | refine wp_tnot.mpr ?_ | refine wp_tand.mpr ?_ | refine wp_tor.mpr ?_ | refine wp_vand.mpr ?_ | refine wp_vor.mpr ?_ | refine wp_vnot.mpr ?_ | refine wp_vif.mpr ?_ | refine wp_tyes.mpr ?_ | refine wp_mM.mpr ?_ | refine wp_mneg.mpr ?_ | refine wp_mrevL.mpr ?_ | refine wp_mlenSet.mpr ?_ | refine wp_misi.mpr ?_ | refine wp_dkInt.mpr ?_ | refine wp_tCells.mpr ?_ | refine wp_iseq.mpr ?_ | refine wp_itup.mpr ?_ | refine wp_istr.mpr ?_ | refine wp_irng1.mpr ?_ | refine wp_defM.mpr ?_ | refine wp_starM.mpr ?_ | refine wp_mdisp.mpr ?_ | refine wp_sasg.mpr ?_) | (first | refine ⟨_, rfl, ?_⟩ | refine ⟨_, _, rfl, ?_⟩ | refine ⟨rfl, ?_⟩ | refine ⟨by (exact Nat.le_of_ble_eq_true rfl), ?_⟩ | refine ⟨_, by (first | rfl | exact dMod_ok (by (((try dsimp only); omega))) | exact dDiv_ok (by (((try dsimp only); omega))) (by (((try dsimp only); omega))) | exact dMul_r (by (((try dsimp only); omega))) (by (((try dsimp only); omega))) | exact dMul_l (by (((try dsimp only); omega))) (by (((try dsimp only); omega))) | assumption), ?_⟩ | refine ⟨_, _, rfl, by (exact Nat.le_of_ble_eq_true rfl), by (exact Nat.le_of_ble_eq_true rfl), ?_⟩))
    refine isword_ok (d := d) hd ?_
    repeat (first | (with_reducible first | refine wp_sseq.mpr ?_ | refine wp_set.mpr ?_ | refine wp_sret.mpr ?_ | refine wp_sif.mpr ?_ | refine wp_snil.mpr ?_ | refine wp_sdrop.mpr ?_ | refine wp_sfor.mpr ?_ | refine wp_spar.mpr ?_ | refine wp_saug.mpr ?_ | refine wp_son.mpr ?_ | refine wp_sapp.mpr ?_ | refine wp_sDraws.mpr ?_ | refine wp_sPop.mpr ?_ | refine wp_sPush.mpr ?_ | refine wp_m2.mpr ?_ | refine wp_evarB.mpr ?_ | refine wp_evar.mpr ?_ | refine wp_cst.mpr ?_ | refine wp_mC.mpr ?_ | refine wp_acons.mpr ?_ | refine wp_anil.mpr ?_ | refine wp_callM.mpr ?_ | refine wp_kwM.mpr ?_ | refine wp_mtup.mpr ?_ | refine wp_mlst.mpr ?_ | refine wp_msl.mpr ?_ | refine wp_onone.mpr ?_ | refine wp_osome.mpr ?_ | refine wp_tst.mpr ?_ | refine wp_tru.mpr ?_ | refine wp_tnot.mpr ?_ | refine wp_tand.mpr ?_ | refine wp_tor.mpr ?_ | refine wp_vand.mpr ?_ | refine wp_vor.mpr ?_ | refine wp_vnot.mpr ?_ | refine wp_vif.mpr ?_ | refine wp_tyes.mpr ?_ | refine wp_mM.mpr ?_ | refine wp_mneg.mpr ?_ | refine wp_mrevL.mpr ?_ | refine wp_mlenSet.mpr ?_ | refine wp_misi.mpr ?_ | refine wp_dkInt.mpr ?_ | refine wp_tCells.mpr ?_ | refine wp_iseq.mpr ?_ | refine wp_itup.mpr ?_ | refine wp_istr.mpr ?_ | refine wp_irng1.mpr ?_ | refine wp_defM.mpr ?_ | refine wp_starM.mpr ?_ | refine wp_mdisp.mpr ?_ | refine wp_sasg.mpr ?_) | (first | refine ⟨_, rfl, ?_⟩ | refine ⟨_, _, rfl, ?_⟩ | refine ⟨rfl, ?_⟩ | refine ⟨by (exact Nat.le_of_ble_eq_true rfl), ?_⟩ | refine ⟨_, by (first | rfl | exact dMod_ok (by (((try dsimp only); omega))) | exact dDiv_ok (by (((try dsimp only); omega))) (by (((try dsimp only); omega))) | exact dMul_r (by (((try dsimp only); omega))) (by (((try dsimp only); omega))) | exact dMul_l (by (((try dsimp only); omega))) (by (((try dsimp only); omega))) | assumption), ?_⟩ | refine ⟨_, _, rfl, by (exact Nat.le_of_ble_eq_true rfl), by (exact Nat.le_of_ble_eq_true rfl), ?_⟩))
    rw [List.map_append]
    rfl
  · rintro acc w' ⟨rfl, rfl⟩
    rw [hmap]
    generalize eL : (List.replicate 5 [ff true]).flatten ++ (List.replicate 18 [ff false]).flatten = L
    have hmem : ∀ d ∈ L, ∃ x, Nice d x 1 2 := fun d hd => by
      have : ∃ b, d = ff b := by
        rw [← eL, ← hmap] at hd
        obtain ⟨e, _, rfl⟩ := List.mem_map.mp hd
        exact ⟨_, rfl⟩
      obtain ⟨b, rfl⟩ := this
      exact ⟨_, Nice.lst (NiceL.cons (Nice.bl b 0) (NiceL.cons (Nice.bl b 0) (NiceL.nil 0)))⟩
    obtain ⟨xs, hxs⟩ := NiceL.all hmem
    have hLl : L.length = 23 := by rw [← eL]; rfl
    have er := dRepr_nice (Nice.lst hxs) (by decide) (by rw [hLl]; decide)
    refine ⟨by (exact Nat.le_of_ble_eq_true rfl), ?_⟩
    refine wp_sret.mpr (wp_m2.mpr ?_)
    refine wp_mC.mpr (wp_acons.mpr (wp_evarB.mpr ⟨_, _, rfl, wp_anil.mpr ⟨_, er, ?_⟩⟩))
    with_reducible refine wp_mC.mpr ?_
    with_reducible refine wp_acons.mpr ?_
    with_reducible refine wp_m2.mpr ?_
    with_reducible refine wp_m2.mpr ?_
    with_reducible refine wp_mlst.mpr ?_
    with_reducible refine wp_acons.mpr ?_
    with_reducible refine wp_mlst.mpr ?_
    with_reducible refine wp_acons.mpr ?_
    with_reducible refine wp_cst.mpr ?_
    with_reducible refine wp_acons.mpr ?_
    with_reducible refine wp_cst.mpr ?_
    with_reducible refine wp_anil.mpr ?_
    refine ⟨by (exact Nat.le_of_ble_eq_true rfl), ?_⟩
    with_reducible refine wp_anil.mpr ?_
    refine ⟨by (exact Nat.le_of_ble_eq_true rfl), ?_⟩
    with_reducible refine wp_cst.mpr ?_
    refine ⟨_, dMul_lst (l := [ff true]) (k := 5) (by decide) (by decide), ?_⟩
    with_reducible refine wp_m2.mpr ?_
    with_reducible refine wp_mlst.mpr ?_
    with_reducible refine wp_acons.mpr ?_
    with_reducible refine wp_mlst.mpr ?_
    with_reducible refine wp_acons.mpr ?_
    with_reducible refine wp_cst.mpr ?_
    with_reducible refine wp_acons.mpr ?_
    with_reducible refine wp_cst.mpr ?_
    with_reducible refine wp_anil.mpr ?_
    refine ⟨by (exact Nat.le_of_ble_eq_true rfl), ?_⟩
    with_reducible refine wp_anil.mpr ?_
    refine ⟨by (exact Nat.le_of_ble_eq_true rfl), ?_⟩
    with_reducible refine wp_mC.mpr ?_
    with_reducible refine wp_acons.mpr ?_
    with_reducible refine wp_evarB.mpr ?_
    refine ⟨_, _, rfl, ?_⟩
    with_reducible refine wp_anil.mpr ?_
    refine ⟨_, dLen_lst, ?_⟩
    rw [hO18]
    refine ⟨_, dMul_lst (l := [ff false]) (k := 18) (by decide) (by decide), ?_⟩
    refine ⟨_, dAdd_lst (by show (5 + 18 : Nat) ≤ 16777216; decide), ?_⟩
    rw [eL]
    with_reducible refine wp_anil.mpr ?_
    refine ⟨_, er, ?_⟩
    refine ⟨_, rfl, ?_⟩
    exact congrArg D.bl (decide_eq_true rfl)
theorem law_ok {w0 : Wd} (h : w0.new) : Sx (g_law (none :: some (false, .deck) :: List.replicate 7 none) w0) no2 no2 no2 fun d _ => d = .bl true := by
  unfold g_law
  rw [abc_eq, bad_eq]
  repeat (first | (with_reducible first | refine wp_sseq.mpr ?_ | refine wp_set.mpr ?_ | refine wp_sret.mpr ?_ | refine wp_sif.mpr ?_ | refine wp_snil.mpr ?_ | refine wp_sdrop.mpr ?_ | refine wp_sfor.mpr ?_ | refine wp_spar.mpr ?_ | refine wp_saug.mpr ?_ | refine wp_son.mpr ?_ | refine wp_sapp.mpr ?_ | refine wp_sDraws.mpr ?_ | refine wp_sPop.mpr ?_ | refine wp_sPush.mpr ?_ | refine wp_m2.mpr ?_ | refine wp_evarB.mpr ?_ | refine wp_evar.mpr ?_ | refine wp_cst.mpr ?_ | refine wp_mC.mpr ?_ | refine wp_acons.mpr ?_ | refine wp_anil.mpr ?_ | refine wp_callM.mpr ?_ | refine wp_kwM.mpr ?_ | refine wp_mtup.mpr ?_ | refine wp_mlst.mpr ?_ | refine wp_msl.mpr ?_ | refine wp_onone.mpr ?_ | refine wp_osome.mpr ?_ | refine wp_tst.mpr ?_ | refine wp_tru.mpr ?_ | refine wp_tnot.mpr ?_ | refine wp_tand.mpr ?_ | refine wp_tor.mpr ?_ | refine wp_vand.mpr ?_ | refine wp_vor.mpr ?_ | refine wp_vnot.mpr ?_ | refine wp_vif.mpr ?_ | refine wp_tyes.mpr ?_ | refine wp_mM.mpr ?_ | refine wp_mneg.mpr ?_ | refine wp_mrevL.mpr ?_ | refine wp_mlenSet.mpr ?_ | refine wp_misi.mpr ?_ | refine wp_dkInt.mpr ?_ | refine wp_tCells.mpr ?_ | refine wp_iseq.mpr ?_ | refine wp_itup.mpr ?_ | refine wp_istr.mpr ?_ | refine wp_irng1.mpr ?_ | refine wp_defM.mpr ?_ | refine wp_starM.mpr ?_ | refine wp_mdisp.mpr ?_ | refine wp_sasg.mpr ?_) | (first | refine ⟨_, rfl, ?_⟩ | refine ⟨_, _, rfl, ?_⟩ | refine ⟨rfl, ?_⟩ | refine ⟨by (exact Nat.le_of_ble_eq_true rfl), ?_⟩ | refine ⟨_, by (first | rfl | exact dMod_ok (by (((try dsimp only); omega))) | exact dDiv_ok (by (((try dsimp only); omega))) (by (((try dsimp only); omega))) | exact dMul_r (by (((try dsimp only); omega))) (by (((try dsimp only); omega))) | exact dMul_l (by (((try dsimp only); omega))) (by (((try dsimp only); omega))) | assumption), ?_⟩ | refine ⟨_, _, rfl, by (exact Nat.le_of_ble_eq_true rfl), by (exact Nat.le_of_ble_eq_true rfl), ?_⟩))
  refine ⟨by decide, by decide, ?_⟩
  refine for_inv (fun pre e w => pre.length ≤ 20 ∧ Good (500 + 200 * (20 - pre.length)) w ∧ ∃ o, e = [none, some (false, .deck), o, none, none, none, none, none, none]) ⟨Nat.zero_le _, h.good (by decide), none, rfl⟩ ?_ ?_
  · rintro pre post d e w eq ⟨h1, g, o, rfl⟩
    have hp : pre.length + 1 ≤ 20 := by
      have := congrArg List.length eq
      rw [List.length_append, List.length_cons, List.length_map, List.length_range] at this
      have e20 : (20 : Int).toNat = 20 := rfl
      omega
    refine ⟨_, rfl, ?_⟩
    repeat (first | (with_reducible first | refine wp_sseq.mpr ?_ | refine wp_set.mpr ?_ | refine wp_sret.mpr ?_ | refine wp_sif.mpr ?_ | refine wp_snil.mpr ?_ | refine wp_sdrop.mpr ?_ | refine wp_sfor.mpr ?_ | refine wp_spar.mpr ?_ | refine wp_saug.mpr ?_ | refine wp_son.mpr ?_ | refine wp_sapp.mpr ?_ | refine wp_sDraws.mpr ?_ | refine wp_sPop.mpr ?_ | refine wp_sPush.mpr ?_ | refine wp_m2.mpr ?_ | refine wp_evarB.mpr ?_ | refine wp_evar.mpr ?_ | refine wp_cst.mpr ?_ | refine wp_mC.mpr ?_ | refine wp_acons.mpr ?_ | refine wp_anil.mpr ?_ | refine wp_callM.mpr ?_ | refine wp_kwM.mpr ?_ | refine wp_mtup.mpr ?_ | refine wp_mlst.mpr ?_ | refine wp_msl.mpr ?_ | refine wp_onone.mpr ?_ | refine wp_osome.mpr ?_ | refine wp_tst.mpr ?_ | refine wp_tru.mpr ?_ | refine wp_tnot.mpr ?_ | refine wp_tand.mpr ?_ | refine wp_tor.mpr ?_ | refine wp_vand.mpr ?_ | refine wp_vor.mpr ?_ | refine wp_vnot.mpr ?_ | refine wp_vif.mpr ?_ | refine wp_tyes.mpr ?_ | refine wp_mM.mpr ?_ | refine wp_mneg.mpr ?_ | refine wp_mrevL.mpr ?_ | refine wp_mlenSet.mpr ?_ | refine wp_misi.mpr ?_ | refine wp_dkInt.mpr ?_ | refine wp_tCells.mpr ?_ | refine wp_iseq.mpr ?_ | refine wp_itup.mpr ?_ | refine wp_istr.mpr ?_ | refine wp_irng1.mpr ?_ | refine wp_defM.mpr ?_ | refine wp_starM.mpr ?_ | refine wp_mdisp.mpr ?_ | refine wp_sasg.mpr ?_) | (first | refine ⟨_, rfl, ?_⟩ | refine ⟨_, _, rfl, ?_⟩ | refine ⟨rfl, ?_⟩ | refine ⟨by (exact Nat.le_of_ble_eq_true rfl), ?_⟩ | refine ⟨_, by (first | rfl | exact dMod_ok (by (((try dsimp only); omega))) | exact dDiv_ok (by (((try dsimp only); omega))) (by (((try dsimp only); omega))) | exact dMul_r (by (((try dsimp only); omega))) (by (((try dsimp only); omega))) | exact dMul_l (by (((try dsimp only); omega))) (by (((try dsimp only); omega))) | assumption), ?_⟩ | refine ⟨_, _, rfl, by (exact Nat.le_of_ble_eq_true rfl), by (exact Nat.le_of_ble_eq_true rfl), ?_⟩))
    refine right_ok (n := 500 + 200 * (20 - (pre.length + 1))) (g.mono (by omega)) fun w' g' => ?_
    repeat (first | (with_reducible first | refine wp_sseq.mpr ?_ | refine wp_set.mpr ?_ | refine wp_sret.mpr ?_ | refine wp_sif.mpr ?_ | refine wp_snil.mpr ?_ | refine wp_sdrop.mpr ?_ | refine wp_sfor.mpr ?_ | refine wp_spar.mpr ?_ | refine wp_saug.mpr ?_ | refine wp_son.mpr ?_ | refine wp_sapp.mpr ?_ | refine wp_sDraws.mpr ?_ | refine wp_sPop.mpr ?_ | refine wp_sPush.mpr ?_ | refine wp_m2.mpr ?_ | refine wp_evarB.mpr ?_ | refine wp_evar.mpr ?_ | refine wp_cst.mpr ?_ | refine wp_mC.mpr ?_ | refine wp_acons.mpr ?_ | refine wp_anil.mpr ?_ | refine wp_callM.mpr ?_ | refine wp_kwM.mpr ?_ | refine wp_mtup.mpr ?_ | refine wp_mlst.mpr ?_ | refine wp_msl.mpr ?_ | refine wp_onone.mpr ?_ | refine wp_osome.mpr ?_ | refine wp_tst.mpr ?_ | refine wp_tru.mpr ?_ | refine wp_tnot.mpr ?_ | refine wp_tand.mpr ?_ | refine wp_tor.mpr ?_ | refine wp_vand.mpr ?_ | refine wp_vor.mpr ?_ | refine wp_vnot.mpr ?_ | refine wp_vif.mpr ?_ | refine wp_tyes.mpr ?_ | refine wp_mM.mpr ?_ | refine wp_mneg.mpr ?_ | refine wp_mrevL.mpr ?_ | refine wp_mlenSet.mpr ?_ | refine wp_misi.mpr ?_ | refine wp_dkInt.mpr ?_ | refine wp_tCells.mpr ?_ | refine wp_iseq.mpr ?_ | refine wp_itup.mpr ?_ | refine wp_istr.mpr ?_ | refine wp_irng1.mpr ?_ | refine wp_defM.mpr ?_ | refine wp_starM.mpr ?_ | refine wp_mdisp.mpr ?_ | refine wp_sasg.mpr ?_) | (first | refine ⟨_, rfl, ?_⟩ | refine ⟨_, _, rfl, ?_⟩ | refine ⟨rfl, ?_⟩ | refine ⟨by (exact Nat.le_of_ble_eq_true rfl), ?_⟩ | refine ⟨_, by (first | rfl | exact dMod_ok (by (((try dsimp only); omega))) | exact dDiv_ok (by (((try dsimp only); omega))) (by (((try dsimp only); omega))) | exact dMul_r (by (((try dsimp only); omega))) (by (((try dsimp only); omega))) | exact dMul_l (by (((try dsimp only); omega))) (by (((try dsimp only); omega))) | assumption), ?_⟩ | refine ⟨_, _, rfl, by (exact Nat.le_of_ble_eq_true rfl), by (exact Nat.le_of_ble_eq_true rfl), ?_⟩))
    refine ⟨fun h => absurd h (by decide), fun _ => ?_⟩
    repeat (first | (with_reducible first | refine wp_sseq.mpr ?_ | refine wp_set.mpr ?_ | refine wp_sret.mpr ?_ | refine wp_sif.mpr ?_ | refine wp_snil.mpr ?_ | refine wp_sdrop.mpr ?_ | refine wp_sfor.mpr ?_ | refine wp_spar.mpr ?_ | refine wp_saug.mpr ?_ | refine wp_son.mpr ?_ | refine wp_sapp.mpr ?_ | refine wp_sDraws.mpr ?_ | refine wp_sPop.mpr ?_ | refine wp_sPush.mpr ?_ | refine wp_m2.mpr ?_ | refine wp_evarB.mpr ?_ | refine wp_evar.mpr ?_ | refine wp_cst.mpr ?_ | refine wp_mC.mpr ?_ | refine wp_acons.mpr ?_ | refine wp_anil.mpr ?_ | refine wp_callM.mpr ?_ | refine wp_kwM.mpr ?_ | refine wp_mtup.mpr ?_ | refine wp_mlst.mpr ?_ | refine wp_msl.mpr ?_ | refine wp_onone.mpr ?_ | refine wp_osome.mpr ?_ | refine wp_tst.mpr ?_ | refine wp_tru.mpr ?_ | refine wp_tnot.mpr ?_ | refine wp_tand.mpr ?_ | refine wp_tor.mpr ?_ | refine wp_vand.mpr ?_ | refine wp_vor.mpr ?_ | refine wp_vnot.mpr ?_ | refine wp_vif.mpr ?_ | refine wp_tyes.mpr ?_ | refine wp_mM.mpr ?_ | refine wp_mneg.mpr ?_ | refine wp_mrevL.mpr ?_ | refine wp_mlenSet.mpr ?_ | refine wp_misi.mpr ?_ | refine wp_dkInt.mpr ?_ | refine wp_tCells.mpr ?_ | refine wp_iseq.mpr ?_ | refine wp_itup.mpr ?_ | refine wp_istr.mpr ?_ | refine wp_irng1.mpr ?_ | refine wp_defM.mpr ?_ | refine wp_starM.mpr ?_ | refine wp_mdisp.mpr ?_ | refine wp_sasg.mpr ?_) | (first | refine ⟨_, rfl, ?_⟩ | refine ⟨_, _, rfl, ?_⟩ | refine ⟨rfl, ?_⟩ | refine ⟨by (exact Nat.le_of_ble_eq_true rfl), ?_⟩ | refine ⟨_, by (first | rfl | exact dMod_ok (by (((try dsimp only); omega))) | exact dDiv_ok (by (((try dsimp only); omega))) (by (((try dsimp only); omega))) | exact dMul_r (by (((try dsimp only); omega))) (by (((try dsimp only); omega))) | exact dMul_l (by (((try dsimp only); omega))) (by (((try dsimp only); omega))) | assumption), ?_⟩ | refine ⟨_, _, rfl, by (exact Nat.le_of_ble_eq_true rfl), by (exact Nat.le_of_ble_eq_true rfl), ?_⟩))
    rw [List.length_append]
    exact ⟨hp, g', _, rfl⟩
  · rintro e w ⟨h1, g, o, rfl⟩
    have g : Good 400 w := g.mono (by omega)
    repeat (first | (with_reducible first | refine wp_sseq.mpr ?_ | refine wp_set.mpr ?_ | refine wp_sret.mpr ?_ | refine wp_sif.mpr ?_ | refine wp_snil.mpr ?_ | refine wp_sdrop.mpr ?_ | refine wp_sfor.mpr ?_ | refine wp_spar.mpr ?_ | refine wp_saug.mpr ?_ | refine wp_son.mpr ?_ | refine wp_sapp.mpr ?_ | refine wp_sDraws.mpr ?_ | refine wp_sPop.mpr ?_ | refine wp_sPush.mpr ?_ | refine wp_m2.mpr ?_ | refine wp_evarB.mpr ?_ | refine wp_evar.mpr ?_ | refine wp_cst.mpr ?_ | refine wp_mC.mpr ?_ | refine wp_acons.mpr ?_ | refine wp_anil.mpr ?_ | refine wp_callM.mpr ?_ | refine wp_kwM.mpr ?_ | refine wp_mtup.mpr ?_ | refine wp_mlst.mpr ?_ | refine wp_msl.mpr ?_ | refine wp_onone.mpr ?_ | refine wp_osome.mpr ?_ | refine wp_tst.mpr ?_ | refine wp_tru.mpr ?_ | refine wp_tnot.mpr ?_ | refine wp_tand.mpr ?_ | refine wp_tor.mpr ?_ | refine wp_vand.mpr ?_ | refine wp_vor.mpr ?_ | refine wp_vnot.mpr ?_ | refine wp_vif.mpr ?_ | refine wp_tyes.mpr ?_ | refine wp_mM.mpr ?_ | refine wp_mneg.mpr ?_ | refine wp_mrevL.mpr ?_ | refine wp_mlenSet.mpr ?_ | refine wp_misi.mpr ?_ | refine wp_dkInt.mpr ?_ | refine wp_tCells.mpr ?_ | refine wp_iseq.mpr ?_ | refine wp_itup.mpr ?_ | refine wp_istr.mpr ?_ | refine wp_irng1.mpr ?_ | refine wp_defM.mpr ?_ | refine wp_starM.mpr ?_ | refine wp_mdisp.mpr ?_ | refine wp_sasg.mpr ?_) | (first | refine ⟨_, rfl, ?_⟩ | refine ⟨_, _, rfl, ?_⟩ | refine ⟨rfl, ?_⟩ | refine ⟨by (exact Nat.le_of_ble_eq_true rfl), ?_⟩ | refine ⟨_, by (first | rfl | exact dMod_ok (by (((try dsimp only); omega))) | exact dDiv_ok (by (((try dsimp only); omega))) (by (((try dsimp only); omega))) | exact dMul_r (by (((try dsimp only); omega))) (by (((try dsimp only); omega))) | exact dMul_l (by (((try dsimp only); omega))) (by (((try dsimp only); omega))) | assumption), ?_⟩ | refine ⟨_, _, rfl, by (exact Nat.le_of_ble_eq_true rfl), by (exact Nat.le_of_ble_eq_true rfl), ?_⟩))
    (try refine ⟨_, mul30, ?_⟩)
    repeat (first | (with_reducible first | refine wp_sseq.mpr ?_ | refine wp_set.mpr ?_ | refine wp_sret.mpr ?_ | refine wp_sif.mpr ?_ | refine wp_snil.mpr ?_ | refine wp_sdrop.mpr ?_ | refine wp_sfor.mpr ?_ | refine wp_spar.mpr ?_ | refine wp_saug.mpr ?_ | refine wp_son.mpr ?_ | refine wp_sapp.mpr ?_ | refine wp_sDraws.mpr ?_ | refine wp_sPop.mpr ?_ | refine wp_sPush.mpr ?_ | refine wp_m2.mpr ?_ | refine wp_evarB.mpr ?_ | refine wp_evar.mpr ?_ | refine wp_cst.mpr ?_ | refine wp_mC.mpr ?_ | refine wp_acons.mpr ?_ | refine wp_anil.mpr ?_ | refine wp_callM.mpr ?_ | refine wp_kwM.mpr ?_ | refine wp_mtup.mpr ?_ | refine wp_mlst.mpr ?_ | refine wp_msl.mpr ?_ | refine wp_onone.mpr ?_ | refine wp_osome.mpr ?_ | refine wp_tst.mpr ?_ | refine wp_tru.mpr ?_ | refine wp_tnot.mpr ?_ | refine wp_tand.mpr ?_ | refine wp_tor.mpr ?_ | refine wp_vand.mpr ?_ | refine wp_vor.mpr ?_ | refine wp_vnot.mpr ?_ | refine wp_vif.mpr ?_ | refine wp_tyes.mpr ?_ | refine wp_mM.mpr ?_ | refine wp_mneg.mpr ?_ | refine wp_mrevL.mpr ?_ | refine wp_mlenSet.mpr ?_ | refine wp_misi.mpr ?_ | refine wp_dkInt.mpr ?_ | refine wp_tCells.mpr ?_ | refine wp_iseq.mpr ?_ | refine wp_itup.mpr ?_ | refine wp_istr.mpr ?_ | refine wp_irng1.mpr ?_ | refine wp_defM.mpr ?_ | refine wp_starM.mpr ?_ | refine wp_mdisp.mpr ?_ | refine wp_sasg.mpr ?_) | (first | refine ⟨_, rfl, ?_⟩ | refine ⟨_, _, rfl, ?_⟩ | refine ⟨rfl, ?_⟩ | refine ⟨by (exact Nat.le_of_ble_eq_true rfl), ?_⟩ | refine ⟨_, by (first | rfl | exact dMod_ok (by (((try dsimp only); omega))) | exact dDiv_ok (by (((try dsimp only); omega))) (by (((try dsimp only); omega))) | exact dMul_r (by (((try dsimp only); omega))) (by (((try dsimp only); omega))) | exact dMul_l (by (((try dsimp only); omega))) (by (((try dsimp only); omega))) | assumption), ?_⟩ | refine ⟨_, _, rfl, by (exact Nat.le_of_ble_eq_true rfl), by (exact Nat.le_of_ble_eq_true rfl), ?_⟩))
    refine drawn_ok (n := 380) (by decide) wrd_abc g fun z1 w1 zl1 zw1 g1 => ?_
    repeat (first | (with_reducible first | refine wp_sseq.mpr ?_ | refine wp_set.mpr ?_ | refine wp_sret.mpr ?_ | refine wp_sif.mpr ?_ | refine wp_snil.mpr ?_ | refine wp_sdrop.mpr ?_ | refine wp_sfor.mpr ?_ | refine wp_spar.mpr ?_ | refine wp_saug.mpr ?_ | refine wp_son.mpr ?_ | refine wp_sapp.mpr ?_ | refine wp_sDraws.mpr ?_ | refine wp_sPop.mpr ?_ | refine wp_sPush.mpr ?_ | refine wp_m2.mpr ?_ | refine wp_evarB.mpr ?_ | refine wp_evar.mpr ?_ | refine wp_cst.mpr ?_ | refine wp_mC.mpr ?_ | refine wp_acons.mpr ?_ | refine wp_anil.mpr ?_ | refine wp_callM.mpr ?_ | refine wp_kwM.mpr ?_ | refine wp_mtup.mpr ?_ | refine wp_mlst.mpr ?_ | refine wp_msl.mpr ?_ | refine wp_onone.mpr ?_ | refine wp_osome.mpr ?_ | refine wp_tst.mpr ?_ | refine wp_tru.mpr ?_ | refine wp_tnot.mpr ?_ | refine wp_tand.mpr ?_ | refine wp_tor.mpr ?_ | refine wp_vand.mpr ?_ | refine wp_vor.mpr ?_ | refine wp_vnot.mpr ?_ | refine wp_vif.mpr ?_ | refine wp_tyes.mpr ?_ | refine wp_mM.mpr ?_ | refine wp_mneg.mpr ?_ | refine wp_mrevL.mpr ?_ | refine wp_mlenSet.mpr ?_ | refine wp_misi.mpr ?_ | refine wp_dkInt.mpr ?_ | refine wp_tCells.mpr ?_ | refine wp_iseq.mpr ?_ | refine wp_itup.mpr ?_ | refine wp_istr.mpr ?_ | refine wp_irng1.mpr ?_ | refine wp_defM.mpr ?_ | refine wp_starM.mpr ?_ | refine wp_mdisp.mpr ?_ | refine wp_sasg.mpr ?_) | (first | refine ⟨_, rfl, ?_⟩ | refine ⟨_, _, rfl, ?_⟩ | refine ⟨rfl, ?_⟩ | refine ⟨by (exact Nat.le_of_ble_eq_true rfl), ?_⟩ | refine ⟨_, by (first | rfl | exact dMod_ok (by (((try dsimp only); omega))) | exact dDiv_ok (by (((try dsimp only); omega))) (by (((try dsimp only); omega))) | exact dMul_r (by (((try dsimp only); omega))) (by (((try dsimp only); omega))) | exact dMul_l (by (((try dsimp only); omega))) (by (((try dsimp only); omega))) | assumption), ?_⟩ | refine ⟨_, _, rfl, by (exact Nat.le_of_ble_eq_true rfl), by (exact Nat.le_of_ble_eq_true rfl), ?_⟩))
    (try refine ⟨_, pow39, ?_⟩)
    repeat (first | (with_reducible first | refine wp_sseq.mpr ?_ | refine wp_set.mpr ?_ | refine wp_sret.mpr ?_ | refine wp_sif.mpr ?_ | refine wp_snil.mpr ?_ | refine wp_sdrop.mpr ?_ | refine wp_sfor.mpr ?_ | refine wp_spar.mpr ?_ | refine wp_saug.mpr ?_ | refine wp_son.mpr ?_ | refine wp_sapp.mpr ?_ | refine wp_sDraws.mpr ?_ | refine wp_sPop.mpr ?_ | refine wp_sPush.mpr ?_ | refine wp_m2.mpr ?_ | refine wp_evarB.mpr ?_ | refine wp_evar.mpr ?_ | refine wp_cst.mpr ?_ | refine wp_mC.mpr ?_ | refine wp_acons.mpr ?_ | refine wp_anil.mpr ?_ | refine wp_callM.mpr ?_ | refine wp_kwM.mpr ?_ | refine wp_mtup.mpr ?_ | refine wp_mlst.mpr ?_ | refine wp_msl.mpr ?_ | refine wp_onone.mpr ?_ | refine wp_osome.mpr ?_ | refine wp_tst.mpr ?_ | refine wp_tru.mpr ?_ | refine wp_tnot.mpr ?_ | refine wp_tand.mpr ?_ | refine wp_tor.mpr ?_ | refine wp_vand.mpr ?_ | refine wp_vor.mpr ?_ | refine wp_vnot.mpr ?_ | refine wp_vif.mpr ?_ | refine wp_tyes.mpr ?_ | refine wp_mM.mpr ?_ | refine wp_mneg.mpr ?_ | refine wp_mrevL.mpr ?_ | refine wp_mlenSet.mpr ?_ | refine wp_misi.mpr ?_ | refine wp_dkInt.mpr ?_ | refine wp_tCells.mpr ?_ | refine wp_iseq.mpr ?_ | refine wp_itup.mpr ?_ | refine wp_istr.mpr ?_ | refine wp_irng1.mpr ?_ | refine wp_defM.mpr ?_ | refine wp_starM.mpr ?_ | refine wp_mdisp.mpr ?_ | refine wp_sasg.mpr ?_) | (first | refine ⟨_, rfl, ?_⟩ | refine ⟨_, _, rfl, ?_⟩ | refine ⟨rfl, ?_⟩ | refine ⟨by (exact Nat.le_of_ble_eq_true rfl), ?_⟩ | refine ⟨_, by (first | rfl | exact dMod_ok (by (((try dsimp only); omega))) | exact dDiv_ok (by (((try dsimp only); omega))) (by (((try dsimp only); omega))) | exact dMul_r (by (((try dsimp only); omega))) (by (((try dsimp only); omega))) | exact dMul_l (by (((try dsimp only); omega))) (by (((try dsimp only); omega))) | assumption), ?_⟩ | refine ⟨_, _, rfl, by (exact Nat.le_of_ble_eq_true rfl), by (exact Nat.le_of_ble_eq_true rfl), ?_⟩))
    refine drawn_ok (n := 360) (by decide) wrd_abc g1 fun z2 w2 zl2 zw2 g2 => ?_
    have zl1 : z1.length ≤ 9 := zl1
    have zl2 : z2.length ≤ 9 := zl2
    repeat (first | (with_reducible first | refine wp_sseq.mpr ?_ | refine wp_set.mpr ?_ | refine wp_sret.mpr ?_ | refine wp_sif.mpr ?_ | refine wp_snil.mpr ?_ | refine wp_sdrop.mpr ?_ | refine wp_sfor.mpr ?_ | refine wp_spar.mpr ?_ | refine wp_saug.mpr ?_ | refine wp_son.mpr ?_ | refine wp_sapp.mpr ?_ | refine wp_sDraws.mpr ?_ | refine wp_sPop.mpr ?_ | refine wp_sPush.mpr ?_ | refine wp_m2.mpr ?_ | refine wp_evarB.mpr ?_ | refine wp_evar.mpr ?_ | refine wp_cst.mpr ?_ | refine wp_mC.mpr ?_ | refine wp_acons.mpr ?_ | refine wp_anil.mpr ?_ | refine wp_callM.mpr ?_ | refine wp_kwM.mpr ?_ | refine wp_mtup.mpr ?_ | refine wp_mlst.mpr ?_ | refine wp_msl.mpr ?_ | refine wp_onone.mpr ?_ | refine wp_osome.mpr ?_ | refine wp_tst.mpr ?_ | refine wp_tru.mpr ?_ | refine wp_tnot.mpr ?_ | refine wp_tand.mpr ?_ | refine wp_tor.mpr ?_ | refine wp_vand.mpr ?_ | refine wp_vor.mpr ?_ | refine wp_vnot.mpr ?_ | refine wp_vif.mpr ?_ | refine wp_tyes.mpr ?_ | refine wp_mM.mpr ?_ | refine wp_mneg.mpr ?_ | refine wp_mrevL.mpr ?_ | refine wp_mlenSet.mpr ?_ | refine wp_misi.mpr ?_ | refine wp_dkInt.mpr ?_ | refine wp_tCells.mpr ?_ | refine wp_iseq.mpr ?_ | refine wp_itup.mpr ?_ | refine wp_istr.mpr ?_ | refine wp_irng1.mpr ?_ | refine wp_defM.mpr ?_ | refine wp_starM.mpr ?_ | refine wp_mdisp.mpr ?_ | refine wp_sasg.mpr ?_) | (first | refine ⟨_, rfl, ?_⟩ | refine ⟨_, _, rfl, ?_⟩ | refine ⟨rfl, ?_⟩ | refine ⟨by (exact Nat.le_of_ble_eq_true rfl), ?_⟩ | refine ⟨_, by (first | rfl | exact dMod_ok (by (((try dsimp only); omega))) | exact dDiv_ok (by (((try dsimp only); omega))) (by (((try dsimp only); omega))) | exact dMul_r (by (((try dsimp only); omega))) (by (((try dsimp only); omega))) | exact dMul_l (by (((try dsimp only); omega))) (by (((try dsimp only); omega))) | assumption), ?_⟩ | refine ⟨_, _, rfl, by (exact Nat.le_of_ble_eq_true rfl), by (exact Nat.le_of_ble_eq_true rfl), ?_⟩))
    refine ⟨_, dLen_tx (by show _ ≤ 16777216; omega), ?_⟩
    repeat (first | (with_reducible first | refine wp_sseq.mpr ?_ | refine wp_set.mpr ?_ | refine wp_sret.mpr ?_ | refine wp_sif.mpr ?_ | refine wp_snil.mpr ?_ | refine wp_sdrop.mpr ?_ | refine wp_sfor.mpr ?_ | refine wp_spar.mpr ?_ | refine wp_saug.mpr ?_ | refine wp_son.mpr ?_ | refine wp_sapp.mpr ?_ | refine wp_sDraws.mpr ?_ | refine wp_sPop.mpr ?_ | refine wp_sPush.mpr ?_ | refine wp_m2.mpr ?_ | refine wp_evarB.mpr ?_ | refine wp_evar.mpr ?_ | refine wp_cst.mpr ?_ | refine wp_mC.mpr ?_ | refine wp_acons.mpr ?_ | refine wp_anil.mpr ?_ | refine wp_callM.mpr ?_ | refine wp_kwM.mpr ?_ | refine wp_mtup.mpr ?_ | refine wp_mlst.mpr ?_ | refine wp_msl.mpr ?_ | refine wp_onone.mpr ?_ | refine wp_osome.mpr ?_ | refine wp_tst.mpr ?_ | refine wp_tru.mpr ?_ | refine wp_tnot.mpr ?_ | refine wp_tand.mpr ?_ | refine wp_tor.mpr ?_ | refine wp_vand.mpr ?_ | refine wp_vor.mpr ?_ | refine wp_vnot.mpr ?_ | refine wp_vif.mpr ?_ | refine wp_tyes.mpr ?_ | refine wp_mM.mpr ?_ | refine wp_mneg.mpr ?_ | refine wp_mrevL.mpr ?_ | refine wp_mlenSet.mpr ?_ | refine wp_misi.mpr ?_ | refine wp_dkInt.mpr ?_ | refine wp_tCells.mpr ?_ | refine wp_iseq.mpr ?_ | refine wp_itup.mpr ?_ | refine wp_istr.mpr ?_ | refine wp_irng1.mpr ?_ | refine wp_defM.mpr ?_ | refine wp_starM.mpr ?_ | refine wp_mdisp.mpr ?_ | refine wp_sasg.mpr ?_) | (first | refine ⟨_, rfl, ?_⟩ | refine ⟨_, _, rfl, ?_⟩ | refine ⟨rfl, ?_⟩ | refine ⟨by (exact Nat.le_of_ble_eq_true rfl), ?_⟩ | refine ⟨_, by (first | rfl | exact dMod_ok (by (((try dsimp only); omega))) | exact dDiv_ok (by (((try dsimp only); omega))) (by (((try dsimp only); omega))) | exact dMul_r (by (((try dsimp only); omega))) (by (((try dsimp only); omega))) | exact dMul_l (by (((try dsimp only); omega))) (by (((try dsimp only); omega))) | assumption), ?_⟩ | refine ⟨_, _, rfl, by (exact Nat.le_of_ble_eq_true rfl), by (exact Nat.le_of_ble_eq_true rfl), ?_⟩))
    (try refine ⟨_, add1, ?_⟩)
    repeat (first | (with_reducible first | refine wp_sseq.mpr ?_ | refine wp_set.mpr ?_ | refine wp_sret.mpr ?_ | refine wp_sif.mpr ?_ | refine wp_snil.mpr ?_ | refine wp_sdrop.mpr ?_ | refine wp_sfor.mpr ?_ | refine wp_spar.mpr ?_ | refine wp_saug.mpr ?_ | refine wp_son.mpr ?_ | refine wp_sapp.mpr ?_ | refine wp_sDraws.mpr ?_ | refine wp_sPop.mpr ?_ | refine wp_sPush.mpr ?_ | refine wp_m2.mpr ?_ | refine wp_evarB.mpr ?_ | refine wp_evar.mpr ?_ | refine wp_cst.mpr ?_ | refine wp_mC.mpr ?_ | refine wp_acons.mpr ?_ | refine wp_anil.mpr ?_ | refine wp_callM.mpr ?_ | refine wp_kwM.mpr ?_ | refine wp_mtup.mpr ?_ | refine wp_mlst.mpr ?_ | refine wp_msl.mpr ?_ | refine wp_onone.mpr ?_ | refine wp_osome.mpr ?_ | refine wp_tst.mpr ?_ | refine wp_tru.mpr ?_ | refine wp_tnot.mpr ?_ | refine wp_tand.mpr ?_ | refine wp_tor.mpr ?_ | refine wp_vand.mpr ?_ | refine wp_vor.mpr ?_ | refine wp_vnot.mpr ?_ | refine wp_vif.mpr ?_ | refine wp_tyes.mpr ?_ | refine wp_mM.mpr ?_ | refine wp_mneg.mpr ?_ | refine wp_mrevL.mpr ?_ | refine wp_mlenSet.mpr ?_ | refine wp_misi.mpr ?_ | refine wp_dkInt.mpr ?_ | refine wp_tCells.mpr ?_ | refine wp_iseq.mpr ?_ | refine wp_itup.mpr ?_ | refine wp_istr.mpr ?_ | refine wp_irng1.mpr ?_ | refine wp_defM.mpr ?_ | refine wp_starM.mpr ?_ | refine wp_mdisp.mpr ?_ | refine wp_sasg.mpr ?_) | (first | refine ⟨_, rfl, ?_⟩ | refine ⟨_, _, rfl, ?_⟩ | refine ⟨rfl, ?_⟩ | refine ⟨by (exact Nat.le_of_ble_eq_true rfl), ?_⟩ | refine ⟨_, by (first | rfl | exact dMod_ok (by (((try dsimp only); omega))) | exact dDiv_ok (by (((try dsimp only); omega))) (by (((try dsimp only); omega))) | exact dMul_r (by (((try dsimp only); omega))) (by (((try dsimp only); omega))) | exact dMul_l (by (((try dsimp only); omega))) (by (((try dsimp only); omega))) | assumption), ?_⟩ | refine ⟨_, _, rfl, by (exact Nat.le_of_ble_eq_true rfl), by (exact Nat.le_of_ble_eq_true rfl), ?_⟩))
    refine draw (n := 359) (by omega) (by omega) g2 fun k w3 k0 k1 g3 => ?_
    obtain ⟨k, rfl⟩ : ∃ k' : Nat, k = k' := ⟨k.toNat, (Int.toNat_of_nonneg k0).symm⟩
    repeat (first | (with_reducible first | refine wp_sseq.mpr ?_ | refine wp_set.mpr ?_ | refine wp_sret.mpr ?_ | refine wp_sif.mpr ?_ | refine wp_snil.mpr ?_ | refine wp_sdrop.mpr ?_ | refine wp_sfor.mpr ?_ | refine wp_spar.mpr ?_ | refine wp_saug.mpr ?_ | refine wp_son.mpr ?_ | refine wp_sapp.mpr ?_ | refine wp_sDraws.mpr ?_ | refine wp_sPop.mpr ?_ | refine wp_sPush.mpr ?_ | refine wp_m2.mpr ?_ | refine wp_evarB.mpr ?_ | refine wp_evar.mpr ?_ | refine wp_cst.mpr ?_ | refine wp_mC.mpr ?_ | refine wp_acons.mpr ?_ | refine wp_anil.mpr ?_ | refine wp_callM.mpr ?_ | refine wp_kwM.mpr ?_ | refine wp_mtup.mpr ?_ | refine wp_mlst.mpr ?_ | refine wp_msl.mpr ?_ | refine wp_onone.mpr ?_ | refine wp_osome.mpr ?_ | refine wp_tst.mpr ?_ | refine wp_tru.mpr ?_ | refine wp_tnot.mpr ?_ | refine wp_tand.mpr ?_ | refine wp_tor.mpr ?_ | refine wp_vand.mpr ?_ | refine wp_vor.mpr ?_ | refine wp_vnot.mpr ?_ | refine wp_vif.mpr ?_ | refine wp_tyes.mpr ?_ | refine wp_mM.mpr ?_ | refine wp_mneg.mpr ?_ | refine wp_mrevL.mpr ?_ | refine wp_mlenSet.mpr ?_ | refine wp_misi.mpr ?_ | refine wp_dkInt.mpr ?_ | refine wp_tCells.mpr ?_ | refine wp_iseq.mpr ?_ | refine wp_itup.mpr ?_ | refine wp_istr.mpr ?_ | refine wp_irng1.mpr ?_ | refine wp_defM.mpr ?_ | refine wp_starM.mpr ?_ | refine wp_mdisp.mpr ?_ | refine wp_sasg.mpr ?_) | (first | refine ⟨_, rfl, ?_⟩ | refine ⟨_, _, rfl, ?_⟩ | refine ⟨rfl, ?_⟩ | refine ⟨by (exact Nat.le_of_ble_eq_true rfl), ?_⟩ | refine ⟨_, by (first | rfl | exact dMod_ok (by (((try dsimp only); omega))) | exact dDiv_ok (by (((try dsimp only); omega))) (by (((try dsimp only); omega))) | exact dMul_r (by (((try dsimp only); omega))) (by (((try dsimp only); omega))) | exact dMul_l (by (((try dsimp only); omega))) (by (((try dsimp only); omega))) | assumption), ?_⟩ | refine ⟨_, _, rfl, by (exact Nat.le_of_ble_eq_true rfl), by (exact Nat.le_of_ble_eq_true rfl), ?_⟩))
    refine ⟨_, dSl_to (by show _ ≤ 16777216; omega), ?_⟩
    repeat (first | (with_reducible first | refine wp_sseq.mpr ?_ | refine wp_set.mpr ?_ | refine wp_sret.mpr ?_ | refine wp_sif.mpr ?_ | refine wp_snil.mpr ?_ | refine wp_sdrop.mpr ?_ | refine wp_sfor.mpr ?_ | refine wp_spar.mpr ?_ | refine wp_saug.mpr ?_ | refine wp_son.mpr ?_ | refine wp_sapp.mpr ?_ | refine wp_sDraws.mpr ?_ | refine wp_sPop.mpr ?_ | refine wp_sPush.mpr ?_ | refine wp_m2.mpr ?_ | refine wp_evarB.mpr ?_ | refine wp_evar.mpr ?_ | refine wp_cst.mpr ?_ | refine wp_mC.mpr ?_ | refine wp_acons.mpr ?_ | refine wp_anil.mpr ?_ | refine wp_callM.mpr ?_ | refine wp_kwM.mpr ?_ | refine wp_mtup.mpr ?_ | refine wp_mlst.mpr ?_ | refine wp_msl.mpr ?_ | refine wp_onone.mpr ?_ | refine wp_osome.mpr ?_ | refine wp_tst.mpr ?_ | refine wp_tru.mpr ?_ | refine wp_tnot.mpr ?_ | refine wp_tand.mpr ?_ | refine wp_tor.mpr ?_ | refine wp_vand.mpr ?_ | refine wp_vor.mpr ?_ | refine wp_vnot.mpr ?_ | refine wp_vif.mpr ?_ | refine wp_tyes.mpr ?_ | refine wp_mM.mpr ?_ | refine wp_mneg.mpr ?_ | refine wp_mrevL.mpr ?_ | refine wp_mlenSet.mpr ?_ | refine wp_misi.mpr ?_ | refine wp_dkInt.mpr ?_ | refine wp_tCells.mpr ?_ | refine wp_iseq.mpr ?_ | refine wp_itup.mpr ?_ | refine wp_istr.mpr ?_ | refine wp_irng1.mpr ?_ | refine wp_defM.mpr ?_ | refine wp_starM.mpr ?_ | refine wp_mdisp.mpr ?_ | refine wp_sasg.mpr ?_) | (first | refine ⟨_, rfl, ?_⟩ | refine ⟨_, _, rfl, ?_⟩ | refine ⟨rfl, ?_⟩ | refine ⟨by (exact Nat.le_of_ble_eq_true rfl), ?_⟩ | refine ⟨_, by (first | rfl | exact dMod_ok (by (((try dsimp only); omega))) | exact dDiv_ok (by (((try dsimp only); omega))) (by (((try dsimp only); omega))) | exact dMul_r (by (((try dsimp only); omega))) (by (((try dsimp only); omega))) | exact dMul_l (by (((try dsimp only); omega))) (by (((try dsimp only); omega))) | assumption), ?_⟩ | refine ⟨_, _, rfl, by (exact Nat.le_of_ble_eq_true rfl), by (exact Nat.le_of_ble_eq_true rfl), ?_⟩))
    refine pickL (n := 358) (by (exact Nat.le_of_ble_eq_true rfl)) (by (exact Nat.le_of_ble_eq_true rfl)) g3 fun d w4 hd g4 => ?_
    obtain ⟨c, hc, rfl⟩ := List.mem_map.mp hd
    have hbad : inL c = false := inL_bad c hc
    have ht : (z2.take k).length ≤ 9 := by rw [List.length_take]; omega
    have ht2 : (z2.drop k).length ≤ 9 := by rw [List.length_drop]; omega
    refine ⟨_, dAdd_tx (a := z2.take k) (b := [c]) (by show _ + 1 ≤ 16777216; omega), ?_⟩
    repeat (first | (with_reducible first | refine wp_sseq.mpr ?_ | refine wp_set.mpr ?_ | refine wp_sret.mpr ?_ | refine wp_sif.mpr ?_ | refine wp_snil.mpr ?_ | refine wp_sdrop.mpr ?_ | refine wp_sfor.mpr ?_ | refine wp_spar.mpr ?_ | refine wp_saug.mpr ?_ | refine wp_son.mpr ?_ | refine wp_sapp.mpr ?_ | refine wp_sDraws.mpr ?_ | refine wp_sPop.mpr ?_ | refine wp_sPush.mpr ?_ | refine wp_m2.mpr ?_ | refine wp_evarB.mpr ?_ | refine wp_evar.mpr ?_ | refine wp_cst.mpr ?_ | refine wp_mC.mpr ?_ | refine wp_acons.mpr ?_ | refine wp_anil.mpr ?_ | refine wp_callM.mpr ?_ | refine wp_kwM.mpr ?_ | refine wp_mtup.mpr ?_ | refine wp_mlst.mpr ?_ | refine wp_msl.mpr ?_ | refine wp_onone.mpr ?_ | refine wp_osome.mpr ?_ | refine wp_tst.mpr ?_ | refine wp_tru.mpr ?_ | refine wp_tnot.mpr ?_ | refine wp_tand.mpr ?_ | refine wp_tor.mpr ?_ | refine wp_vand.mpr ?_ | refine wp_vor.mpr ?_ | refine wp_vnot.mpr ?_ | refine wp_vif.mpr ?_ | refine wp_tyes.mpr ?_ | refine wp_mM.mpr ?_ | refine wp_mneg.mpr ?_ | refine wp_mrevL.mpr ?_ | refine wp_mlenSet.mpr ?_ | refine wp_misi.mpr ?_ | refine wp_dkInt.mpr ?_ | refine wp_tCells.mpr ?_ | refine wp_iseq.mpr ?_ | refine wp_itup.mpr ?_ | refine wp_istr.mpr ?_ | refine wp_irng1.mpr ?_ | refine wp_defM.mpr ?_ | refine wp_starM.mpr ?_ | refine wp_mdisp.mpr ?_ | refine wp_sasg.mpr ?_) | (first | refine ⟨_, rfl, ?_⟩ | refine ⟨_, _, rfl, ?_⟩ | refine ⟨rfl, ?_⟩ | refine ⟨by (exact Nat.le_of_ble_eq_true rfl), ?_⟩ | refine ⟨_, by (first | rfl | exact dMod_ok (by (((try dsimp only); omega))) | exact dDiv_ok (by (((try dsimp only); omega))) (by (((try dsimp only); omega))) | exact dMul_r (by (((try dsimp only); omega))) (by (((try dsimp only); omega))) | exact dMul_l (by (((try dsimp only); omega))) (by (((try dsimp only); omega))) | assumption), ?_⟩ | refine ⟨_, _, rfl, by (exact Nat.le_of_ble_eq_true rfl), by (exact Nat.le_of_ble_eq_true rfl), ?_⟩))
    refine ⟨_, dSl_from (by show _ ≤ 16777216; omega), ?_⟩
    refine ⟨_, dAdd_tx (by rw [List.length_append]; show _ + 1 + _ ≤ 16777216; omega), ?_⟩
    refine ⟨by show 17 < 16777216; decide, ?_⟩
    exact tail_ok (z1 := z1) (zz := z2.take k ++ [c] ++ z2.drop k) zw1 (by omega) (isw_bad (c := c) (by simp) hbad) (by rw [List.length_append, List.length_append]; show _ + 1 + _ ≤ 1000; omega)
theorem law_plain (w0 : Wd) (h : w0.new) : ∃ w1, g_law (none :: some (false, .deck) :: List.replicate 7 none) w0 = .ret (.bl true) w1 := by
  have q := law_ok h
  cases e : g_law (none :: some (false, .deck) :: List.replicate 7 none) w0 with
  | ret d w => rw [e] at q; exact ⟨w, by rw [show d = .bl true from q]⟩
  | _ => rw [e] at q; exact q.elim
end K02

set_option Elab.async false
set_option linter.all false
set_option maxRecDepth 100000
set_option maxHeartbeats 4000000
/-! K02E: printed by gen.py: the facts of the top, the law's own end. -/
namespace K02
open PySem PySem.Spec PyProof.Rows L2 L3
theorem all_mk {l : PySem.W.OpenLaw} {w : World} {K : PySem.W.Frag} {h : Heap} {mg : Str → Option Value} {fa : Addr} (X : K.In h) (G : h.Ns mainGlobals mg) (hfa : mg "law" = some (.ref fa))
    {f0 f1 f2 f3 f4 f5 f6 f7 f8 f9 f10 : Addr} {od0 an0 od1 an1 od2 an2 od3 an3 od4 an4 od5 an5 od6 an6 od7 an7 od8 an8 od9 an9 od10 an10 : Option Addr} {sl0 sl1 sl2 sl3 sl4 sl5 sl6 sl7 sl8 sl9 sl10 : Array (Option Value)} {oc0 kV0 dc0 pm0 cd0 ct0 oc1 kV1 dc1 pm1 cd1 ct1 oc2 kV2 dc2 pm2 cd2 ct2 oc3 kV3 dc3 pm3 cd3 ct3 oc4 kV4 dc4 pm4 cd4 ct4 oc5 kV5 dc5 pm5 cd5 ct5 oc6 kV6 dc6 pm6 cd6 ct6 oc7 kV7 dc7 pm7 cd7 ct7 oc8 kV8 dc8 pm8 cd8 ct8 oc9 kV9 dc9 pm9 cd9 ct9 oc10 kV10 dc10 pm10 cd10 ct10 : Value} {tk_LETTERS : Tok}
    (a0 : PySem.W.nsIn K mainGlobals "is_word" = some (some (.ref f0))) (l0 : K.lookup f0 = some ⟨oc0, od0, .func (PySem.W.fnOf "is_word" "is_word" (defArgs s_is_word) (defBody s_is_word) (defScope s_is_word) .none kV0 dc0 pm0 an0 cd0 ct0), sl0⟩) (c0 : PySem.W.codeIn K cd0 "is_word" = true) (k0 : PySem.W.keepIn K (.ref f0) = true)
    (a1 : PySem.W.nsIn K mainGlobals "common_prefix" = some (some (.ref f1))) (l1 : K.lookup f1 = some ⟨oc1, od1, .func (PySem.W.fnOf "common_prefix" "common_prefix" (defArgs s_common_prefix) (defBody s_common_prefix) (defScope s_common_prefix) .none kV1 dc1 pm1 an1 cd1 ct1), sl1⟩) (c1 : PySem.W.codeIn K cd1 "common_prefix" = true) (k1 : PySem.W.keepIn K (.ref f1) = true)
    (a3 : PySem.W.nsIn K mainGlobals "_law_deck" = some (some (.ref f3))) (l3 : K.lookup f3 = some ⟨oc3, od3, .func (PySem.W.fnOf "_law_deck" "_law_deck" (defArgs s_l_deck) (defBody s_l_deck) (defScope s_l_deck) .none kV3 dc3 pm3 an3 cd3 ct3), sl3⟩) (c3 : PySem.W.codeIn K cd3 "_law_deck" = true) (k3 : PySem.W.keepIn K (.ref f3) = true)
    (a4 : PySem.W.nsIn K mainGlobals "_law_draw" = some (some (.ref f4))) (l4 : K.lookup f4 = some ⟨oc4, od4, .func (PySem.W.fnOf "_law_draw" "_law_draw" (defArgs s_l_draw) (defBody s_l_draw) (defScope s_l_draw) .none kV4 dc4 pm4 an4 cd4 ct4), sl4⟩) (c4 : PySem.W.codeIn K cd4 "_law_draw" = true) (k4 : PySem.W.keepIn K (.ref f4) = true)
    (a6 : PySem.W.nsIn K mainGlobals "_law_alike" = some (some (.ref f6))) (l6 : K.lookup f6 = some ⟨oc6, od6, .func (PySem.W.fnOf "_law_alike" "_law_alike" (defArgs s_l_alike) (defBody s_l_alike) (defScope s_l_alike) .none kV6 dc6 pm6 an6 cd6 ct6), sl6⟩) (c6 : PySem.W.codeIn K cd6 "_law_alike" = true) (k6 : PySem.W.keepIn K (.ref f6) = true)
    (a2 : PySem.W.nsIn K mainGlobals "delay" = some (some (.ref f2))) (l2 : K.lookup f2 = some ⟨oc2, od2, .func (PySem.W.fnOf "delay" "delay" (defArgs s_delay) (defBody s_delay) (defScope s_delay) .none kV2 dc2 pm2 an2 cd2 ct2), sl2⟩) (c2 : PySem.W.codeIn K cd2 "delay" = true) (k2 : PySem.W.keepIn K (.ref f2) = true)
    (a5 : PySem.W.nsIn K mainGlobals "_law_pick" = some (some (.ref f5))) (l5 : K.lookup f5 = some ⟨oc5, od5, .func (PySem.W.fnOf "_law_pick" "_law_pick" (defArgs s_l_pick) (defBody s_l_pick) (defScope s_l_pick) .none kV5 dc5 pm5 an5 cd5 ct5), sl5⟩) (c5 : PySem.W.codeIn K cd5 "_law_pick" = true) (k5 : PySem.W.keepIn K (.ref f5) = true)
    (a7 : PySem.W.nsIn K mainGlobals "_law_five" = some (some (.ref f7))) (l7 : K.lookup f7 = some ⟨oc7, od7, .func (PySem.W.fnOf "_law_five" "_law_five" (defArgs s_l_five) (defBody s_l_five) (defScope s_l_five) .none kV7 dc7 pm7 an7 cd7 ct7), sl7⟩) (c7 : PySem.W.codeIn K cd7 "_law_five" = true) (k7 : PySem.W.keepIn K (.ref f7) = true)
    (a8 : PySem.W.nsIn K mainGlobals "_law_drawn" = some (some (.ref f8))) (l8 : K.lookup f8 = some ⟨oc8, od8, .func (PySem.W.fnOf "_law_drawn" "_law_drawn" (defArgs s_l_drawn) (defBody s_l_drawn) (defScope s_l_drawn) .none kV8 dc8 pm8 an8 cd8 ct8), sl8⟩) (c8 : PySem.W.codeIn K cd8 "_law_drawn" = true) (k8 : PySem.W.keepIn K (.ref f8) = true)
    (a9 : PySem.W.nsIn K mainGlobals "_law_right" = some (some (.ref f9))) (l9 : K.lookup f9 = some ⟨oc9, od9, .func (PySem.W.fnOf "_law_right" "_law_right" (defArgs s_l_right) (defBody s_l_right) (defScope s_l_right) .none kV9 dc9 pm9 an9 cd9 ct9), sl9⟩) (c9 : PySem.W.codeIn K cd9 "_law_right" = true) (k9 : PySem.W.keepIn K (.ref f9) = true)
    (a10 : PySem.W.nsIn K mainGlobals "law" = some (some (.ref f10))) (l10 : K.lookup f10 = some ⟨oc10, od10, .func (PySem.W.fnOf "law" "law" (defArgs s_law) (defBody s_law) (defScope s_law) .none kV10 dc10 pm10 an10 cd10 ct10), sl10⟩) (c10 : PySem.W.codeIn K cd10 "law" = true) (k10 : PySem.W.keepIn K (.ref f10) = true)
    (z_all : PySem.W.nsIn K mainGlobals "all" = some none)
    (z_int : PySem.W.nsIn K mainGlobals "int" = some none)
    (z_isinstance : PySem.W.nsIn K mainGlobals "isinstance" = some none)
    (z_len : PySem.W.nsIn K mainGlobals "len" = some none)
    (z_list : PySem.W.nsIn K mainGlobals "list" = some none)
    (z_min : PySem.W.nsIn K mainGlobals "min" = some none)
    (z_range : PySem.W.nsIn K mainGlobals "range" = some none)
    (z_repr : PySem.W.nsIn K mainGlobals "repr" = some none)
    (z_set : PySem.W.nsIn K mainGlobals "set" = some none)
    (z_str : PySem.W.nsIn K mainGlobals "str" = some none)
    (t_LETTERS : PySem.W.nsIn K mainGlobals "LETTERS" = some (some (.str (Str.ofString "abcdefghijklmnopqrstuvwxyz") tk_LETTERS)))
    : ∃ fd : FuncData, (∀ (s : Shared) (v : Value), BindsTo s fd ⟨[v], []⟩ [("_law_script", v)]) ∧ ∀ base : Heap, K.In base → base.Ns mainGlobals mg → FnG l.prog w K mg base 5 fa fd ["_law_script"] (spLaw K) := by
  have e : f10 = fa := by
    have e := (PySem.W.mg_of X G a10).symm.trans hfa
    cases e
    rfl
  subst e
  have T : Txt K mg (fun i => match i with | 0 => f0 | 1 => f1 | 2 => f2 | 3 => f3 | 4 => f4 | 5 => f5 | 6 => f6 | 7 => f7 | 8 => f8 | 9 => f9 | 10 => f10 | _ => f0) := ⟨PySem.W.mg_none_of X G z_all, PySem.W.mg_none_of X G z_int, PySem.W.mg_none_of X G z_isinstance, PySem.W.mg_none_of X G z_len, PySem.W.mg_none_of X G z_list, PySem.W.mg_none_of X G z_min, PySem.W.mg_none_of X G z_range, PySem.W.mg_none_of X G z_repr, PySem.W.mg_none_of X G z_set, PySem.W.mg_none_of X G z_str, ⟨_, PySem.W.mg_of X G t_LETTERS⟩, PySem.W.mg_of X G a6, k6, PySem.W.mg_of X G a4, k4, PySem.W.mg_of X G a8, k8, PySem.W.mg_of X G a7, k7, PySem.W.mg_of X G a5, k5, PySem.W.mg_of X G a9, k9, PySem.W.mg_of X G a1, k1, PySem.W.mg_of X G a2, k2, PySem.W.mg_of X G a0, k0, PySem.W.mg_of X G a3, k3⟩
  have F0 := fun_mk (st := s_is_word) l0 c0 k0
  have F1 := fun_mk (st := s_common_prefix) l1 c1 k1
  have F3 := fun_mk (st := s_l_deck) l3 c3 k3
  have F4 := fun_mk (st := s_l_draw) l4 c4 k4
  have F6 := fun_mk (st := s_l_alike) l6 c6 k6
  have F2 := fun_mk (st := s_delay) l2 c2 k2
  have F5 := fun_mk (st := s_l_pick) l5 c5 k5
  have F7 := fun_mk (st := s_l_five) l7 c7 k7
  have F8 := fun_mk (st := s_l_drawn) l8 c8 k8
  have F9 := fun_mk (st := s_l_right) l9 c9 k9
  have F10 := fun_mk (st := s_law) l10 c10 k10
  refine ⟨PySem.W.fnOf "law" "law" (defArgs s_law) (defBody s_law) (defScope s_law) .none kV10 dc10 pm10 an10 cd10 ct10, fun s v => .of_eq rfl, fun base _ _ => ?_⟩
  have O_is_word : ∀ dk : Option (Addr × Addr), FnG l.prog w K mg base 1 f0 _ ["thing"] (Sp3 ⟨K, dk, fun _ => 0, fun _ => []⟩ 1 m_is_word) := fun dk => ok_is_word F0 T
  have G_is_word : ∀ dk : Option (Addr × Addr), PosG l.prog w K mg base 1 f0 (Sp3 ⟨K, dk, fun _ => 0, fun _ => []⟩ 1 m_is_word) := fun dk => (O_is_word dk).pos (fun _ _ _ _ h => sp3_len h) (F0.binds (ps := ["thing"]) fun _ _ _ _ _ _ us hl => match us, hl with | [_], _ => rfl)
  have W_is_word_0 : ∀ dk : Option (Addr × Addr), KwG l.prog w K mg base 1 f0 ["thing"] @kw_is_word_0 (Sp3 ⟨K, dk, fun _ => 0, fun _ => []⟩ 1 m_is_word) := fun dk => (O_is_word dk).kw (ks := ["thing"]) (fun _ _ _ _ h => sp3_len h) (fun s us hl => match us, hl with | [_], _ => .of_eq rfl) fun r => kwP_vals _ r
  have G_common_prefix : ∀ (dk : Option (Addr × Addr)) (n : Nat), n ≤ SL → PosG l.prog w K mg base 1 f1 (Sp3 ⟨K, dk, fun _ => 0, fun _ => []⟩ n (starM m_common_prefix)) := fun dk => ok_common_prefix F1 T (bs_common_prefix)
  have O_l_draw : ∀ dk : Option (Addr × Addr), FnG l.prog w K mg base 1 f4 _ ["_law_deck_here", "_law_below"] (Sp3 ⟨K, dk, fun _ => 0, fun _ => []⟩ 2 m_l_draw) := fun dk => ok_l_draw F4 T
  have G_l_draw : ∀ dk : Option (Addr × Addr), PosG l.prog w K mg base 1 f4 (Sp3 ⟨K, dk, fun _ => 0, fun _ => []⟩ 2 m_l_draw) := fun dk => (O_l_draw dk).pos (fun _ _ _ _ h => sp3_len h) (F4.binds (ps := ["_law_deck_here", "_law_below"]) fun _ _ _ _ _ _ us hl => match us, hl with | [_, _], _ => rfl)
  have O_l_alike : ∀ dk : Option (Addr × Addr), FnG l.prog w K mg base 1 f6 _ ["_law_some"] (Sp3 ⟨K, dk, fun _ => 0, fun _ => []⟩ 1 m_l_alike) := fun dk => ok_l_alike F6 T
  have G_l_alike : ∀ dk : Option (Addr × Addr), PosG l.prog w K mg base 1 f6 (Sp3 ⟨K, dk, fun _ => 0, fun _ => []⟩ 1 m_l_alike) := fun dk => (O_l_alike dk).pos (fun _ _ _ _ h => sp3_len h) (F6.binds (ps := ["_law_some"]) fun _ _ _ _ _ _ us hl => match us, hl with | [_], _ => rfl)
  have O_delay : ∀ dk : Option (Addr × Addr), FnG l.prog w K mg base 2 f2 _ ["one", "other"] (Sp3 ⟨K, dk, fun _ => 0, fun _ => []⟩ 2 m_delay) := fun dk => ok_delay F2 T (G_common_prefix dk)
  have G_delay : ∀ dk : Option (Addr × Addr), PosG l.prog w K mg base 2 f2 (Sp3 ⟨K, dk, fun _ => 0, fun _ => []⟩ 2 m_delay) := fun dk => (O_delay dk).pos (fun _ _ _ _ h => sp3_len h) (F2.binds (ps := ["one", "other"]) fun _ _ _ _ _ _ us hl => match us, hl with | [_, _], _ => rfl)
  have W_delay_10 : ∀ dk : Option (Addr × Addr), KwG l.prog w K mg base 2 f2 ["other", "one"] @kw_delay_10 (Sp3 ⟨K, dk, fun _ => 0, fun _ => []⟩ 2 m_delay) := fun dk => (O_delay dk).kw (ks := ["other", "one"]) (fun _ _ _ _ h => sp3_len h) (fun s us hl => match us, hl with | [_, _], _ => .of_eq rfl) fun r => kwP_vals _ r
  have O_l_pick : ∀ dk : Option (Addr × Addr), FnG l.prog w K mg base 2 f5 _ ["_law_deck_here", "_law_some"] (Sp3 ⟨K, dk, fun _ => 0, fun _ => []⟩ 2 m_l_pick) := fun dk => ok_l_pick F5 T (G_l_draw dk)
  have G_l_pick : ∀ dk : Option (Addr × Addr), PosG l.prog w K mg base 2 f5 (Sp3 ⟨K, dk, fun _ => 0, fun _ => []⟩ 2 m_l_pick) := fun dk => (O_l_pick dk).pos (fun _ _ _ _ h => sp3_len h) (F5.binds (ps := ["_law_deck_here", "_law_some"]) fun _ _ _ _ _ _ us hl => match us, hl with | [_, _], _ => rfl)
  have O_l_five : ∀ dk : Option (Addr × Addr), FnG l.prog w K mg base 2 f7 _ ["_law_some"] (Sp3 ⟨K, dk, fun _ => 0, fun _ => []⟩ 1 m_l_five) := fun dk => ok_l_five F7 T (G_common_prefix dk)
  have G_l_five : ∀ dk : Option (Addr × Addr), PosG l.prog w K mg base 2 f7 (Sp3 ⟨K, dk, fun _ => 0, fun _ => []⟩ 1 m_l_five) := fun dk => (O_l_five dk).pos (fun _ _ _ _ h => sp3_len h) (F7.binds (ps := ["_law_some"]) fun _ _ _ _ _ _ us hl => match us, hl with | [_], _ => rfl)
  have O_l_drawn : ∀ dk : Option (Addr × Addr), FnG l.prog w K mg base 3 f8 _ ["_law_deck_here", "_law_head"] (Sp3 ⟨K, dk, fun _ => 0, fun _ => []⟩ 2 m_l_drawn) := fun dk => ok_l_drawn F8 T (G_l_draw dk) (G_l_pick dk)
  have G_l_drawn : ∀ dk : Option (Addr × Addr), PosG l.prog w K mg base 3 f8 (Sp3 ⟨K, dk, fun _ => 0, fun _ => []⟩ 2 m_l_drawn) := fun dk => (O_l_drawn dk).pos (fun _ _ _ _ h => sp3_len h) (F8.binds (ps := ["_law_deck_here", "_law_head"]) fun _ _ _ _ _ _ us hl => match us, hl with | [_, _], _ => rfl)
  have O_l_right : ∀ dk : Option (Addr × Addr), FnG l.prog w K mg base 4 f9 _ ["_law_deck_here"] (Sp3 ⟨K, dk, fun _ => 0, fun _ => []⟩ 1 m_l_right) := fun dk => ok_l_right F9 T (G_l_alike dk) (G_l_draw dk) (G_l_drawn dk) (G_l_five dk) (G_delay dk) (W_delay_10 dk)
  have G_l_right : ∀ dk : Option (Addr × Addr), PosG l.prog w K mg base 4 f9 (Sp3 ⟨K, dk, fun _ => 0, fun _ => []⟩ 1 m_l_right) := fun dk => (O_l_right dk).pos (fun _ _ _ _ h => sp3_len h) (F9.binds (ps := ["_law_deck_here"]) fun _ _ _ _ _ _ us hl => match us, hl with | [_], _ => rfl)
  have OD := deckFn (P := l.prog) (w := w) (mg := mg) (base := base) (k := 0) (b0 := 10858021) F3 sc_l_deck rfl (fun cdv A outer s H => ps_deck0 1 2 rfl sc_l_deck.nd rfl T.b_list) (fun cdv A outer s H hr hgd => body_l_deck T hr hgd) deck_plain
  have GD := OD.pos (fun vs H Q E h => by obtain ⟨a, ns, e, _⟩ := h; rw [e]; rfl) (F3.binds (ps := ["_law_script"]) fun _ _ _ _ _ _ us hl => match us, hl with | [_], _ => rfl)
  exact lawFn (N0 := 7) (kd := 1) (k := 4) F10 sc_law rfl rfl GD (by decide) T.c_l_deck T.k_l_deck (by decide) (by decide) (by decide) (fun _ _ _ _ _ => rfl) (by first | exact Or.inl rfl | exact Or.inr (Or.inl rfl)) (by first | exact Or.inl rfl | exact Or.inr rfl) (fun _ _ _ _ _ => rfl) (fun dk cdv A outer s H hr hgd => body_law T (G_l_draw dk) (G_l_drawn dk) (G_l_pick dk) (G_l_right dk) (G_is_word dk) (W_is_word_0 dk) hr hgd) law_plain
end K02
open PySem PySem.W PyProof.Rows
set_option maxRecDepth 100000 in
set_option maxHeartbeats 0 in
theorem PySem.Challenge.cw_onegoing_k02_words_holds : PySem.Challenge.rw_onegoing_k02_words.Holds := by
  w_on; o_law; k_head; (case hw => w_witness2)
  k_fill
  refine L3.walkG (l := PySem.Challenge.rw_onegoing_k02_words) (n := 63) (k := 5) (x := "_law_script") (sp := fun K => L3.spLaw K) rfl (by decide) rfl ⟨rfl, by decide, by decide⟩ (fun w h Y => PySem.W.kIn_of Y) ?F fun K H a ns hl _ hS => ⟨a, ns, rfl, hS, hl, fun _ => rfl⟩
  case F =>
    intro w mg fa h KX G hmg
    refine' K02.all_mk KX G hmg ?a0 ?l0 ?c0 ?k0 ?a1 ?l1 ?c1 ?k1 ?a3 ?l3 ?c3 ?k3 ?a4 ?l4 ?c4 ?k4 ?a6 ?l6 ?c6 ?k6 ?a2 ?l2 ?c2 ?k2 ?a5 ?l5 ?c5 ?k5 ?a7 ?l7 ?c7 ?k7 ?a8 ?l8 ?c8 ?k8 ?a9 ?l9 ?c9 ?k9 ?a10 ?l10 ?c10 ?k10 ?z_all ?z_int ?z_isinstance ?z_len ?z_list ?z_min ?z_range ?z_repr ?z_set ?z_str ?t_LETTERS
    (case a0 => k_is)
    (case l0 => k_is)
    (case c0 => k_is)
    (case k0 => k_is)
    (case a1 => k_is)
    (case l1 => k_is)
    (case c1 => k_is)
    (case k1 => k_is)
    (case a3 => k_is)
    (case l3 => k_is)
    (case c3 => k_is)
    (case k3 => k_is)
    (case a4 => k_is)
    (case l4 => k_is)
    (case c4 => k_is)
    (case k4 => k_is)
    (case a6 => k_is)
    (case l6 => k_is)
    (case c6 => k_is)
    (case k6 => k_is)
    (case a2 => k_is)
    (case l2 => k_is)
    (case c2 => k_is)
    (case k2 => k_is)
    (case a5 => k_is)
    (case l5 => k_is)
    (case c5 => k_is)
    (case k5 => k_is)
    (case a7 => k_is)
    (case l7 => k_is)
    (case c7 => k_is)
    (case k7 => k_is)
    (case a8 => k_is)
    (case l8 => k_is)
    (case c8 => k_is)
    (case k8 => k_is)
    (case a9 => k_is)
    (case l9 => k_is)
    (case c9 => k_is)
    (case k9 => k_is)
    (case a10 => k_is)
    (case l10 => k_is)
    (case c10 => k_is)
    (case k10 => k_is)
    (case z_all => k_is)
    (case z_int => k_is)
    (case z_isinstance => k_is)
    (case z_len => k_is)
    (case z_list => k_is)
    (case z_min => k_is)
    (case z_range => k_is)
    (case z_repr => k_is)
    (case z_set => k_is)
    (case z_str => k_is)
    (case t_LETTERS => k_is)

