import PyProof.Rows.All
import Wide.All
import OpenK.AllK
import Wide.FinOn
import HandS.Base
import HandS.Call
import HandS.List
import HandS.Comp
import HandS.Ends
import HandS.Dict
import HandS.Iter
import HandS.Text
import HandS.Words
import HandS.Style
import HandS.Star
import HandS.IsInst
import PyProof.ReprRoads
import PyProof.Rows.SetFrom
import PyProof.ListStr
import HandS.Exc
import HandS.ExcCtx
import HandS.ExcOwn
import HandS.ExcSuper
import HandS.ExcIs
import HandS.ExcValue
import KE.KExcSuper
import HandS.HotCalls
import PySem.Challenge.RW_onegoing_k01_errors
set_option Elab.async false
set_option linter.all false
set_option maxRecDepth 100000
set_option maxHeartbeats 4000000
/-! L3Base: Python data as trees (D), how a tree lies in the tracked heap (RelD), what a def's frame knows (Cor), and readings that run a plain Lean function (T3, T3b, TS3). -/
namespace L3
open PySem PySem.Spec PyProof.Rows L2

abbrev Sl := List (Option V)
/-! ### data -/
inductive D where
  | non | bl (b : Bool) | int (i : Int) | str (s : Str)
  | tup (ds : List D) | lst (ds : List D) | dic (t : Bool) (kvs : List (D × D)) | obj (c : Nat) (ds : List D) | exc (c : Nat) (at_ : Option Nat) (ds : List D) | deck | glb (n : Nat)

def keyD : Key → D
  | .inl i => .int i
  | .inr s => .str s

/-- the law's deck of numbers -/
structure Wd where
  cells : List Int
  blend : Int
  draws : Int

/-- what stays the same through all calls: the written part, where the deck and its cells stand, where the classes stand -/
structure Ms where
  K : PySem.W.Frag
  dk : Option (Addr × Addr)
  cl : Nat → Addr
  nm : Nat → List Str

abbrev FS := Addr → Prop
def isDk (M : Ms) (b : Addr) : Prop := ∃ p, M.dk = some p ∧ (b = p.1 ∨ b = p.2)
abbrev noH : Hp := fun _ => none

def SqT3 (K : PySem.W.Frag) (F : FS) (H : Hp) (a : Addr) (xs : List V) : Prop := H a = some (.tup xs)
def SqL3 (K : PySem.W.Frag) (F : FS) (H : Hp) (a : Addr) (xs : List V) : Prop := F a ∧ H a = some (.lst xs)

/-- an exception's object at a, of the class cls, its dict at od -/
def ExV (cls : Value) (od : Option Addr) (a : Addr) : HO := .ext fun h => ∃ (oe : Obj) (vs : Array Value), h.get? a = some oe ∧ oe.cls = cls ∧ oe.dict = od ∧ oe.data = .fields vs ∧ vs[2]? = some .none
/-- its attributes xs -/
def ExD (F : FS) (H : Hp) (nm : List Str) (xs : List V) : Option Addr → Prop
  | none => xs = []
  | some dx => F dx ∧ nm.length = xs.length ∧ H dx = some (.xd (nm.zip xs))

mutual
def RelD (M : Ms) (F : FS) (H : Hp) : D → V → Prop
  | .non, v => v = .non
  | .bl b, v => v = .bl b
  | .int i, v => v = .int i
  | .str s, v => v = .str s
  | .tup ds, v => ∃ a xs, v = .ref a ∧ SqT3 M.K F H a xs ∧ RelDs M F H ds xs
  | .lst ds, v => ∃ a xs, v = .ref a ∧ SqL3 M.K F H a xs ∧ RelDs M F H ds xs
  | .dic false kvs, v => ∃ a o ps, v = .ref a ∧ F a ∧ H a = some (.frz o (.dK ps)) ∧ RelKs M F H kvs ps
  | .dic true kvs, v => ∃ a o ps, v = .ref a ∧ F a ∧ H a = some (.frz o (.dT ps)) ∧ RelTs M F H kvs ps
  | .obj c ds, v => ∃ a dx xs, v = .ref a ∧ F a ∧ H a = some (.ins (M.cl c) dx ((M.nm c).zip xs)) ∧ (M.nm c).length = xs.length ∧ RelDs M F H ds xs
  | .exc c at_ ds, v => ∃ a od xs, v = .ref a ∧ (∀ b, at_ = some b → a = b) ∧ F a ∧ H a = some (ExV (.ref (M.cl c)) od a) ∧ ExD F H (M.nm c) xs od ∧ RelDs M F H ds xs
  | .deck, v => ∃ p, M.dk = some p ∧ v = .ref p.1
  | .glb n, v => v = .ref (M.cl n)
def RelDs (M : Ms) (F : FS) (H : Hp) : List D → List V → Prop
  | [], vs => vs = []
  | d :: ds, vs => ∃ x xs, vs = x :: xs ∧ RelD M F H d x ∧ RelDs M F H ds xs
def RelKs (M : Ms) (F : FS) (H : Hp) : List (D × D) → List (Key × V) → Prop
  | [], ps => ps = []
  | (k, d) :: r, ps => ∃ q x t, ps = (q, x) :: t ∧ k = keyD q ∧ RelD M F H d x ∧ RelKs M F H r t
def RelTs (M : Ms) (F : FS) (H : Hp) : List (D × D) → List (List Key × V) → Prop
  | [], ps => ps = []
  | (k, d) :: r, ps => ∃ q x t, ps = (q, x) :: t ∧ k = .tup (q.map keyD) ∧ RelD M F H d x ∧ RelTs M F H r t
end

def Sub (F F' : FS) : Prop := ∀ b, F b → F' b
def Ext (F : FS) (H H' : Hp) : Prop := ∀ b o, (F b ∨ ∃ xs, o = HO.tup xs) → H b = some o → H' b = some o

section
variable {M : Ms} {F F' : FS} {H H' : Hp}
theorem SqT3.mono {K a xs} (hs : Sub F F') (he : Ext F H H') (h : SqT3 K F H a xs) : SqT3 K F' H' a xs := by
  exact he _ _ (.inr ⟨_, rfl⟩) h
theorem SqL3.mono {K a xs} (hs : Sub F F') (he : Ext F H H') (h : SqL3 K F H a xs) : SqL3 K F' H' a xs := ⟨hs _ h.1, he _ _ (.inl h.1) h.2⟩
theorem SqT3.sq {K a xs} (h : SqT3 K F H a xs) : SqT K H a xs := by
  exact .of h
theorem SqL3.sq {K a xs} (h : SqL3 K F H a xs) : SqL K H a xs := .of h.2
theorem ExD.mono {nm : List Str} {xs : List V} {od : Option Addr} (hs : Sub F F') (he : Ext F H H') (h : ExD F H nm xs od) : ExD F' H' nm xs od := by
  cases od with
  | none => exact h
  | some dx => exact ⟨hs _ h.1, h.2.1, he _ _ (.inl h.1) h.2.2⟩
mutual
theorem RelD.mono (hs : Sub F F') (he : Ext F H H') : ∀ (d : D) (v : V), RelD M F H d v → RelD M F' H' d v
  | .non, _, h => h
  | .bl _, _, h => h
  | .int _, _, h => h
  | .str _, _, h => h
  | .tup ds, _, ⟨a, xs, e, q, r⟩ => ⟨a, xs, e, q.mono hs he, RelDs.mono hs he ds xs r⟩
  | .lst ds, _, ⟨a, xs, e, q, r⟩ => ⟨a, xs, e, q.mono hs he, RelDs.mono hs he ds xs r⟩
  | .dic false kvs, _, ⟨a, o, ps, e, f, q, r⟩ => ⟨a, o, ps, e, hs _ f, he _ _ (.inl f) q, RelKs.mono hs he kvs ps r⟩
  | .dic true kvs, _, ⟨a, o, ps, e, f, q, r⟩ => ⟨a, o, ps, e, hs _ f, he _ _ (.inl f) q, RelTs.mono hs he kvs ps r⟩
  | .obj c ds, _, ⟨a, dx, xs, e, f, q, l, r⟩ => ⟨a, dx, xs, e, hs _ f, he _ _ (.inl f) q, l, RelDs.mono hs he ds xs r⟩
  | .exc c at_ ds, _, ⟨a, od, xs, e, ha, f, q, l, r⟩ => ⟨a, od, xs, e, ha, hs _ f, he _ _ (.inl f) q, l.mono hs he, RelDs.mono hs he ds xs r⟩
  | .deck, _, h => h
  | .glb _, _, h => h
theorem RelDs.mono (hs : Sub F F') (he : Ext F H H') : ∀ (ds : List D) (vs : List V), RelDs M F H ds vs → RelDs M F' H' ds vs
  | [], _, h => h
  | d :: ds, _, ⟨x, xs, e, r, t⟩ => ⟨x, xs, e, RelD.mono hs he d x r, RelDs.mono hs he ds xs t⟩
theorem RelKs.mono (hs : Sub F F') (he : Ext F H H') : ∀ (kvs : List (D × D)) (ps : List (Key × V)), RelKs M F H kvs ps → RelKs M F' H' kvs ps
  | [], _, h => h
  | (k, d) :: r, _, ⟨q, x, t, e, ek, rd, rt⟩ => ⟨q, x, t, e, ek, RelD.mono hs he d x rd, RelKs.mono hs he r t rt⟩
theorem RelTs.mono (hs : Sub F F') (he : Ext F H H') : ∀ (kvs : List (D × D)) (ps : List (List Key × V)), RelTs M F H kvs ps → RelTs M F' H' kvs ps
  | [], _, h => h
  | (k, d) :: r, _, ⟨q, x, t, e, ek, rd, rt⟩ => ⟨q, x, t, e, ek, RelD.mono hs he d x rd, RelTs.mono hs he r t rt⟩
end
theorem RelDs.length : ∀ {ds : List D} {vs : List V}, RelDs M F H ds vs → ds.length = vs.length
  | [], _, h => by
    have e : _ = [] := h
    subst e
    rfl
  | d :: ds, _, h => by
    obtain ⟨x, xs, rfl, r, t⟩ := h
    show ds.length + 1 = xs.length + 1
    rw [RelDs.length t]
theorem RelDs.get : ∀ {ds : List D} {vs : List V} {i : Nat} {d : D}, RelDs M F H ds vs → ds[i]? = some d → ∃ v, vs[i]? = some v ∧ RelD M F H d v
  | [], _, i, d, h, e => by simp at e
  | d :: ds, _, 0, d', h, e => by
    obtain ⟨x, xs, rfl, r, t⟩ := h
    simp at e
    subst e
    exact ⟨x, rfl, r⟩
  | d :: ds, _, i + 1, d', h, e => by
    obtain ⟨x, xs, rfl, r, t⟩ := h
    obtain ⟨v, q1, q2⟩ := RelDs.get (i := i) t (by simpa using e)
    exact ⟨v, by simpa using q1, q2⟩
theorem RelDs.getV : ∀ {ds : List D} {vs : List V} {i : Nat} {v : V}, RelDs M F H ds vs → vs[i]? = some v → ∃ d, ds[i]? = some d ∧ RelD M F H d v
  | [], _, i, d, h, e => by
    have z : _ = [] := h
    subst z
    simp at e
  | d :: ds, _, 0, d', h, e => by
    obtain ⟨x, xs, rfl, r, t⟩ := h
    simp at e
    subst e
    exact ⟨d, rfl, r⟩
  | d :: ds, _, i + 1, d', h, e => by
    obtain ⟨x, xs, rfl, r, t⟩ := h
    obtain ⟨v, q1, q2⟩ := RelDs.getV (i := i) t (by simpa using e)
    exact ⟨v, by simpa using q1, q2⟩
theorem RelDs.append : ∀ {ds es : List D} {vs us : List V}, RelDs M F H ds vs → RelDs M F H es us → RelDs M F H (ds ++ es) (vs ++ us)
  | [], _, _, _, h, k => by
    have z : _ = [] := h
    subst z
    exact k
  | d :: ds, _, _, _, h, k => by
    obtain ⟨x, xs, rfl, r, t⟩ := h
    exact ⟨x, _, rfl, r, RelDs.append t k⟩
theorem RelDs.one {d : D} {v : V} (h : RelD M F H d v) : RelDs M F H [d] [v] := ⟨v, [], rfl, h, rfl⟩
theorem RelDs.take : ∀ {ds : List D} {vs : List V} (n : Nat), RelDs M F H ds vs → RelDs M F H (ds.take n) (vs.take n)
  | [], _, n, h => by
    have z : _ = [] := h
    subst z
    simp only [List.take_nil]
    rfl
  | d :: ds, _, 0, h => rfl
  | d :: ds, _, n + 1, h => by
    obtain ⟨x, xs, rfl, r, t⟩ := h
    exact ⟨x, _, rfl, r, RelDs.take n t⟩
theorem RelDs.drop : ∀ {ds : List D} {vs : List V} (n : Nat), RelDs M F H ds vs → RelDs M F H (ds.drop n) (vs.drop n)
  | [], _, n, h => by
    have z : _ = [] := h
    subst z
    simp only [List.drop_nil]
    rfl
  | d :: ds, _, 0, h => h
  | d :: ds, _, n + 1, h => by
    obtain ⟨x, xs, rfl, r, t⟩ := h
    exact RelDs.drop n t
theorem RelDs.reverse : ∀ {ds : List D} {vs : List V}, RelDs M F H ds vs → RelDs M F H ds.reverse vs.reverse
  | [], _, h => by
    have z : _ = [] := h
    subst z
    rfl
  | d :: ds, _, h => by
    obtain ⟨x, xs, rfl, r, t⟩ := h
    rw [List.reverse_cons, List.reverse_cons]
    exact RelDs.append (RelDs.reverse t) (RelDs.one r)
theorem RelDs.ints : ∀ {ns : List Int}, RelDs M F H (ns.map D.int) (ns.map V.int)
  | [] => rfl
  | n :: ns => ⟨_, _, rfl, rfl, RelDs.ints⟩
theorem RelDs.strs : ∀ {ns : List Str}, RelDs M F H (ns.map D.str) (ns.map V.str)
  | [] => rfl
  | n :: ns => ⟨_, _, rfl, rfl, RelDs.strs⟩
theorem RelDs.strs_eq : ∀ {ns : List Str} {vs : List V}, RelDs M F H (ns.map D.str) vs → vs = ns.map V.str
  | [], _, h => h
  | n :: ns, _, h => by
    obtain ⟨x, xs, rfl, r, t⟩ := h
    have r : x = .str n := r
    subst r
    rw [RelDs.strs_eq t]
    rfl
theorem RelDs.ints_eq : ∀ {ns : List Int} {vs : List V}, RelDs M F H (ns.map D.int) vs → vs = ns.map V.int
  | [], _, h => h
  | n :: ns, _, h => by
    obtain ⟨x, xs, rfl, r, t⟩ := h
    have r : x = .int n := r
    subst r
    rw [RelDs.ints_eq t]
    rfl
end

/-! ### the deck; how the heap grows -/
def deckO (c : Addr) (w : Wd) : HO := .dK [((.inr "cells" : Key), .ref c), ((.inr "blend" : Key), .int w.blend), ((.inr "draws" : Key), .int w.draws)]
def WRel (M : Ms) (F : FS) (w : Wd) (H : Hp) : Prop :=
  ∀ p, M.dk = some p → H p.1 = some (deckO p.2 w) ∧ H p.2 = some (.lst (w.cells.map V.int)) ∧ ¬ F p.1 ∧ ¬ F p.2 ∧ p.1 ≠ p.2
theorem WRel.not {M : Ms} {F : FS} {w : Wd} {H : Hp} (h : WRel M F w H) {b : Addr} (f : F b) : ¬ isDk M b := by
  rintro ⟨p, e, rfl | rfl⟩
  · exact (h p e).2.2.1 f
  · exact (h p e).2.2.2.1 f
theorem WRel.there {M : Ms} {F : FS} {w : Wd} {H : Hp} (h : WRel M F w H) {b : Addr} (d : isDk M b) : H b ≠ none := by
  obtain ⟨p, e, rfl | rfl⟩ := d
  · rw [(h p e).1]; exact fun z => by cases z
  · rw [(h p e).2.1]; exact fun z => by cases z
structure Grow (M : Ms) (F : FS) (H : Hp) (F' : FS) (w' : Wd) (H' : Hp) : Prop where
  sub : Sub F F'
  keep : ∀ b o, H b = some o → ¬ isDk M b → H' b = some o
  old : ∀ b, F' b → H b ≠ none → F b
  dom : ∀ b, F' b → H' b ≠ none
  world : WRel M F' w' H'
  tups : ∀ b xs, H b = some (.tup xs) → H' b = some (.tup xs)
section
variable {M : Ms} {F F1 F2 : FS} {w w1 w2 : Wd} {H H1 H2 : Hp}
theorem Grow.refl (hd : ∀ b, F b → H b ≠ none) (hw : WRel M F w H) : Grow M F H F w H := ⟨fun _ h => h, fun _ _ e _ => e, fun _ f _ => f, hd, hw, fun _ _ h => h⟩
theorem Grow.ext (g : Grow M F H F1 w1 H1) : Ext F H H1 := fun b o f e => by
  rcases f with f | ⟨xs, rfl⟩
  · exact g.keep b o e (g.world.not (g.sub b f))
  · exact g.tups b xs e
theorem Grow.trans (a : Grow M F H F1 w1 H1) (b : Grow M F1 H1 F2 w2 H2) : Grow M F H F2 w2 H2 where
  sub := fun c f => b.sub c (a.sub c f)
  keep := fun c o e n => b.keep c o (a.keep c o e n) n
  old := fun c f n => by
    refine a.old c (b.old c f fun z => ?_) n
    cases q : H c with
    | none => exact n q
    | some o =>
      rw [a.keep c o q (b.world.not f)] at z
      cases z
  dom := b.dom
  world := b.world
  tups := fun c xs h => b.tups c xs (a.tups c xs h)
/-- a new object -/
theorem Grow.new {p : Addr} {o : HO} (hd : ∀ b, F b → H b ≠ none) (hw : WRel M F w H) (hp : H p = none) : Grow M F H (fun b => F b ∨ b = p) w (upd H p o) where
  sub := fun _ f => .inl f
  keep := fun b u e _ => by rw [upd_ne (ne_of_none e hp)]; exact e
  old := fun b f n => by
    rcases f with f | rfl
    · exact f
    · exact absurd hp n
  dom := fun b f => by
    by_cases e : b = p
    · subst e; rw [upd_same]; exact fun z => by cases z
    · rw [upd_ne e]
      rcases f with f | z
      · exact hd b f
      · exact absurd z e
  world := fun q e => by
    obtain ⟨h1, h2, h3, h4, h5⟩ := hw q e
    have n1 := ne_of_none h1 hp
    have n2 := ne_of_none h2 hp
    refine ⟨by rw [upd_ne n1]; exact h1, by rw [upd_ne n2]; exact h2, ?_, ?_, h5⟩
    · rintro (f | z)
      · exact h3 f
      · exact n1 z
    · rintro (f | z)
      · exact h4 f
      · exact n2 z
  tups := fun b xs e => by rw [upd_ne (ne_of_none e hp)]; exact e
end

/-! ### a frame -/
/-- the entry: what was tracked, what was frozen -/
structure Bs where
  H0 : Hp
  F0 : FS
abbrev Env3 := List (Option (Bool × D))
structure Gd (M : Ms) (B : Bs) (F : FS) (w : Wd) (H : Hp) : Prop where
  dom : ∀ b, F b → H b ≠ none
  world : WRel M F w H
  keep : ∀ b o, B.H0 b = some o → ¬ isDk M b → H b = some o
  old : ∀ b, F b → B.H0 b ≠ none → B.F0 b
  sub : ∀ b, B.F0 b → F b
  tups : ∀ b xs, B.H0 b = some (.tup xs) → H b = some (.tup xs)
theorem Gd.grow {M : Ms} {B : Bs} {F F' : FS} {w w' : Wd} {H H' : Hp} (g : Gd M B F w H) (x : Grow M F H F' w' H') : Gd M B F' w' H' where
  dom := x.dom
  world := x.world
  keep := fun b o e n => x.keep b o (g.keep b o e n) n
  old := fun b f n => by
    refine g.old b (x.old b f fun z => ?_) n
    cases q : B.H0 b with
    | none => exact n q
    | some o =>
      rw [g.keep b o q (x.world.not f)] at z
      cases z
  sub := fun b f => x.sub b (g.sub b f)
  tups := fun b xs e => x.tups b xs (g.tups b xs e)
/-- from the entry to here -/
theorem Gd.whole {M : Ms} {B : Bs} {F : FS} {w : Wd} {H : Hp} (g : Gd M B F w H) : Grow M B.F0 B.H0 F w H := ⟨g.sub, g.keep, g.old, g.dom, g.world, g.tups⟩

/-- an object that this frame alone knows, and may change -/
def OwnC (M : Ms) (F : FS) (H : Hp) (a : Addr) : D → Prop
  | .lst ds => ∃ xs, H a = some (.lst xs) ∧ RelDs M F H ds xs
  | .dic false kvs => ∃ ps, H a = some (.dK ps) ∧ RelKs M F H kvs ps
  | .dic true kvs => ∃ ps, H a = some (.dT ps) ∧ RelTs M F H kvs ps
  | .obj c ds => ∃ dx xs, H a = some (.ins (M.cl c) dx (((M.nm c).take ds.length).zip xs)) ∧ RelDs M F H ds xs
  | _ => False
def Own (M : Ms) (B : Bs) (F : FS) (H : Hp) (d : D) (v : V) : Prop := ∃ a, v = .ref a ∧ ¬ F a ∧ B.H0 a = none ∧ ¬ isDk M a ∧ OwnC M F H a d
theorem OwnC.there {M : Ms} {F : FS} {H : Hp} {a : Addr} {d : D} (h : OwnC M F H a d) : ∃ o, H a = some o := by
  cases d with
  | lst ds => obtain ⟨xs, h, _⟩ := h; exact ⟨_, h⟩
  | dic t kvs => cases t <;> obtain ⟨xs, h, _⟩ := h <;> exact ⟨_, h⟩
  | obj c ds => obtain ⟨dx, xs, h, _⟩ := h; exact ⟨_, h⟩
  | _ => exact h.elim
theorem OwnC.mono {M : Ms} {F F' : FS} {H H' : Hp} {a : Addr} {d : D} (hs : Sub F F') (he : Ext F H H') (ha : ∀ o, H a = some o → H' a = some o) (h : OwnC M F H a d) : OwnC M F' H' a d := by
  cases d with
  | lst ds => obtain ⟨xs, h, r⟩ := h; exact ⟨xs, ha _ h, RelDs.mono hs he _ _ r⟩
  | dic t kvs =>
    cases t
    · obtain ⟨xs, h, r⟩ := h; exact ⟨xs, ha _ h, RelKs.mono hs he _ _ r⟩
    · obtain ⟨xs, h, r⟩ := h; exact ⟨xs, ha _ h, RelTs.mono hs he _ _ r⟩
  | obj c ds => obtain ⟨dx, xs, h, r⟩ := h; exact ⟨dx, xs, ha _ h, RelDs.mono hs he _ _ r⟩
  | _ => exact h.elim

structure Cor (M : Ms) (B : Bs) (F : FS) (env : Env3) (w : Wd) (σ : Sl) (H : Hp) : Prop where
  gd : Gd M B F w H
  len : σ.length = env.length
  fro : ∀ (i : Nat) (d : D), env[i]? = some (some (false, d)) → ∃ v, σ[i]? = some (some v) ∧ RelD M F H d v
  own : ∀ (i : Nat) (d : D), env[i]? = some (some (true, d)) → ∃ v, σ[i]? = some (some v) ∧ Own M B F H d v
  sep : ∀ (i j : Nat) (d e : D) (v : V), env[i]? = some (some (true, d)) → env[j]? = some (some (true, e)) → σ[i]? = some (some v) → σ[j]? = some (some v) → i = j
section
variable {M : Ms} {B : Bs} {F F' : FS} {env : Env3} {w w' : Wd} {σ : Sl} {H H' : Hp}
theorem Cor.self (c : Cor M B F env w σ H) : Grow M F H F w H := .refl c.gd.dom c.gd.world
theorem Cor.grow (c : Cor M B F env w σ H) (g : Grow M F H F' w' H') : Cor M B F' env w' σ H' where
  gd := c.gd.grow g
  len := c.len
  fro := fun i d e => by
    obtain ⟨v, q, r⟩ := c.fro i d e
    exact ⟨v, q, RelD.mono g.sub g.ext _ _ r⟩
  own := fun i d e => by
    obtain ⟨v, q, a, rfl, nf, h0, nd, oc⟩ := c.own i d e
    obtain ⟨o, ho⟩ := oc.there
    refine ⟨_, q, a, rfl, fun f => nf (g.old a f (by rw [ho]; exact fun z => by cases z)), h0, nd, oc.mono g.sub g.ext fun o e => g.keep a o e nd⟩
  sep := c.sep
end

/-- a value that may only be looked at: any value, or the object of an owned slot -/
def RelB (M : Ms) (F : FS) (H : Hp) (env : Env3) (σ : Sl) (d : D) (v : V) : Prop := RelD M F H d v ∨ ∃ i : Nat, env[i]? = some (some (true, d)) ∧ σ[i]? = some (some v)

/-! ### results; expressions -/
inductive R3 (α : Type) where
  | ok (a : α) (w : Wd)
  | bad
abbrev M3 (α : Type) := Env3 → Wd → R3 α
def M3.bind {α β : Type} (f : M3 α) (k : α → M3 β) : M3 β := fun env w => match f env w with
  | .ok a w' => k a env w'
  | .bad => .bad
def M3.ret {α : Type} (a : α) : M3 α := fun _ w => .ok a w
def M3.opt {α : Type} (a : Option α) : M3 α := fun _ w => match a with
  | some a => .ok a w
  | none => .bad

def Post (M : Ms) (F : FS) (H : Hp) (r : R3 D) (Q : VK) : Prop := match r with
  | .ok d w' => ∀ F' H' v, Grow M F H F' w' H' → RelD M F' H' d v → Q v H'
  | .bad => False
def PostB (M : Ms) (F : FS) (H : Hp) (env : Env3) (σ : Sl) (r : R3 D) (Q : VK) : Prop := match r with
  | .ok d w' => ∀ F' H' v, Grow M F H F' w' H' → RelB M F' H' env σ d v → Q v H'
  | .bad => False
def PostBs (M : Ms) (F : FS) (H : Hp) (r : R3 Bool) (Q : Bool → Hp → Prop) : Prop := match r with
  | .ok b w' => ∀ F' H', Grow M F H F' w' H' → Q b H'
  | .bad => False
def PostA (M : Ms) (F : FS) (H : Hp) (r : R3 (List D)) (Q : List V → Hp → Prop) : Prop := match r with
  | .ok ds w' => ∀ F' H' vs, Grow M F H F' w' H' → RelDs M F' H' ds vs → Q vs H'
  | .bad => False
def RelBs (M : Ms) (F : FS) (H : Hp) (env : Env3) (σ : Sl) : List D → List V → Prop
  | [], vs => vs = []
  | d :: ds, vs => ∃ x xs, vs = x :: xs ∧ RelB M F H env σ d x ∧ RelBs M F H env σ ds xs
def PostAB (M : Ms) (F : FS) (H : Hp) (env : Env3) (σ : Sl) (r : R3 (List D)) (Q : List V → Hp → Prop) : Prop := match r with
  | .ok ds w' => ∀ F' H' vs, Grow M F H F' w' H' → RelBs M F' H' env σ ds vs → Q vs H'
  | .bad => False
/-- .. arguments that are only looked at -/
def T3ab (M : Ms) (f : M3 (List D)) : TA := fun σ H Q => ∃ B F env w, Cor M B F env w σ H ∧ PostAB M F H env σ (f env w) Q
/-- a reading: from a known frame the plain function f is run -/
def T3 (M : Ms) (f : M3 D) : TE := fun σ H Q => ∃ B F env w, Cor M B F env w σ H ∧ Post M F H (f env w) Q
/-- .. whose value is only looked at -/
def T3b (M : Ms) (f : M3 D) : TE := fun σ H Q => ∃ B F env w, Cor M B F env w σ H ∧ PostB M F H env σ (f env w) Q
/-- .. a test -/
def T3t (M : Ms) (f : M3 Bool) : TT := fun σ H Q => ∃ B F env w, Cor M B F env w σ H ∧ PostBs M F H (f env w) Q
/-- .. arguments -/
def T3a (M : Ms) (f : M3 (List D)) : TA := fun σ H Q => ∃ B F env w, Cor M B F env w σ H ∧ PostA M F H (f env w) Q

theorem PEi {X : Cx} {e : Expr} {t t' : TE} (h : PE X e t) (i : ∀ σ H Q, t' σ H Q → t σ H Q) : PE X e t' := ⟨fun pins s σ H Q I q => h.run pins s σ H Q I (i σ H Q q)⟩
theorem PTi {X : Cx} {e : Expr} {t t' : TT} (h : PT X e t) (i : ∀ σ H Q, t' σ H Q → t σ H Q) : PT X e t' := ⟨fun pins s σ H Q I q => h.run pins s σ H Q I (i σ H Q q)⟩
theorem PWi {X : Cx} {e : Expr} {t t' : TT} (h : PW X e t) (i : ∀ σ H Q, t' σ H Q → t σ H Q) : PW X e t' := ⟨fun wh pins s σ H Q I q => h.run wh pins s σ H Q I (i σ H Q q)⟩
theorem PAi {X : Cx} {es : List Expr} {t t' : TA} (h : PA X es t) (i : ∀ σ H Q, t' σ H Q → t σ H Q) : PA X es t' := ⟨fun pos pins s σ H Q I q => h.run pos pins s σ H Q I (i σ H Q q)⟩
theorem PSi {X : Cx} {st : Stmt} {t t' : TS} (h : PS X st t) (i : ∀ D σ H, t' D σ H → t D σ H) : PS X st t' := ⟨fun pins s σ H D I q => h.run pins s σ H D I (i D σ H q)⟩
theorem PSsi {X : Cx} {st : List Stmt} {t t' : TS} (h : PSs X st t) (i : ∀ D σ H, t' D σ H → t D σ H) : PSs X st t' := ⟨fun pins s σ H D I q => h.run pins s σ H D I (i D σ H q)⟩

section
variable {M : Ms} {B : Bs} {F : FS} {env : Env3} {w : Wd} {σ : Sl} {H : Hp} {Q : VK} {f : M3 D} {k : D → M3 D}
theorem T3.b (h : T3b M f σ H Q) : T3 M f σ H Q := by
  obtain ⟨B, F, env, w, c, p⟩ := h
  refine ⟨B, F, env, w, c, ?_⟩
  cases e : f env w with
  | bad => rw [e] at p; exact p.elim
  | ok d w' =>
    rw [e] at p
    exact fun F' H' v g r => p F' H' v g (.inl r)
theorem pe_b {X : Cx} {e : Expr} (h : PE X e (T3 M f)) : PE X e (T3b M f) := PEi h fun _ _ _ q => T3.b q
/-- first a, then what is made of it -/
theorem T3b.bind' {β : Type} {kk : D → M3 β} {P : R3 β → FS → Hp → Prop} (c : Cor M B F env w σ H) (p : P ((f.bind kk) env w) F H)
    (hbad : ∀ F H, ¬ P .bad F H) (hg : ∀ r F H F' H' w', Grow M F H F' w' H' → P r F H → P r F' H') :
    T3b M f σ H fun v H1 => ∃ F1 w1 d, Grow M F H F1 w1 H1 ∧ Cor M B F1 env w1 σ H1 ∧ RelB M F1 H1 env σ d v ∧ P (kk d env w1) F1 H1 := by
  refine ⟨B, F, env, w, c, ?_⟩
  unfold M3.bind at p
  cases e : f env w with
  | bad =>
    rw [e] at p
    exact (hbad _ _ p).elim
  | ok d w' =>
    rw [e] at p
    exact fun F' H' v g r => ⟨F', w', d, g, c.grow g, r, hg _ _ _ _ _ _ g p⟩
theorem Post.grow {r : R3 D} {F' : FS} {H' : Hp} {w' : Wd} (g : Grow M F H F' w' H') (p : Post M F H r Q) : Post M F' H' r Q := by
  cases r with
  | bad => exact p
  | ok d w2 => exact fun F2 H2 v g2 r => p F2 H2 v (g.trans g2) r
theorem PostA.grow {r : R3 (List D)} {Q : List V → Hp → Prop} {F' : FS} {H' : Hp} {w' : Wd} (g : Grow M F H F' w' H') (p : PostA M F H r Q) : PostA M F' H' r Q := by
  cases r with
  | bad => exact p
  | ok d w2 => exact fun F2 H2 v g2 r => p F2 H2 v (g.trans g2) r
theorem PostBs.grow {r : R3 Bool} {Q : Bool → Hp → Prop} {F' : FS} {H' : Hp} {w' : Wd} (g : Grow M F H F' w' H') (p : PostBs M F H r Q) : PostBs M F' H' r Q := by
  cases r with
  | bad => exact p
  | ok d w2 => exact fun F2 H2 g2 => p F2 H2 (g.trans g2)
theorem T3b.bind (c : Cor M B F env w σ H) (p : Post M F H ((f.bind k) env w) Q) :
    T3b M f σ H fun v H1 => ∃ F1 w1 d, Grow M F H F1 w1 H1 ∧ Cor M B F1 env w1 σ H1 ∧ RelB M F1 H1 env σ d v ∧ Post M F1 H1 (k d env w1) Q :=
  T3b.bind' (P := fun r F H => Post M F H r Q) c p (fun _ _ h => h) fun _ _ _ _ _ _ g p => p.grow g
theorem T3.bind' {β : Type} {kk : D → M3 β} {P : R3 β → FS → Hp → Prop} (c : Cor M B F env w σ H) (p : P ((f.bind kk) env w) F H)
    (hbad : ∀ F H, ¬ P .bad F H) (hg : ∀ r F H F' H' w', Grow M F H F' w' H' → P r F H → P r F' H') :
    T3 M f σ H fun v H1 => ∃ F1 w1 d, Grow M F H F1 w1 H1 ∧ Cor M B F1 env w1 σ H1 ∧ RelD M F1 H1 d v ∧ P (kk d env w1) F1 H1 := by
  refine ⟨B, F, env, w, c, ?_⟩
  unfold M3.bind at p
  cases e : f env w with
  | bad =>
    rw [e] at p
    exact (hbad _ _ p).elim
  | ok d w' =>
    rw [e] at p
    exact fun F' H' v g r => ⟨F', w', d, g, c.grow g, r, hg _ _ _ _ _ _ g p⟩
theorem T3.bind (c : Cor M B F env w σ H) (p : Post M F H ((f.bind k) env w) Q) :
    T3 M f σ H fun v H1 => ∃ F1 w1 d, Grow M F H F1 w1 H1 ∧ Cor M B F1 env w1 σ H1 ∧ RelD M F1 H1 d v ∧ Post M F1 H1 (k d env w1) Q :=
  T3.bind' (P := fun r F H => Post M F H r Q) c p (fun _ _ h => h) fun _ _ _ _ _ _ g p => p.grow g
theorem T3t.bind' {β : Type} {f : M3 Bool} {kk : Bool → M3 β} {P : R3 β → FS → Hp → Prop} (c : Cor M B F env w σ H) (p : P ((f.bind kk) env w) F H)
    (hbad : ∀ F H, ¬ P .bad F H) (hg : ∀ r F H F' H' w', Grow M F H F' w' H' → P r F H → P r F' H') :
    T3t M f σ H fun b H1 => ∃ F1 w1, Grow M F H F1 w1 H1 ∧ Cor M B F1 env w1 σ H1 ∧ P (kk b env w1) F1 H1 := by
  refine ⟨B, F, env, w, c, ?_⟩
  unfold M3.bind at p
  cases e : f env w with
  | bad =>
    rw [e] at p
    exact (hbad _ _ p).elim
  | ok d w' =>
    rw [e] at p
    exact fun F' H' g => ⟨F', w', g, c.grow g, hg _ _ _ _ _ _ g p⟩
theorem T3a.bind' {β : Type} {f : M3 (List D)} {kk : List D → M3 β} {P : R3 β → FS → Hp → Prop} (c : Cor M B F env w σ H) (p : P ((f.bind kk) env w) F H)
    (hbad : ∀ F H, ¬ P .bad F H) (hg : ∀ r F H F' H' w', Grow M F H F' w' H' → P r F H → P r F' H') :
    T3a M f σ H fun vs H1 => ∃ F1 w1 ds, Grow M F H F1 w1 H1 ∧ Cor M B F1 env w1 σ H1 ∧ RelDs M F1 H1 ds vs ∧ P (kk ds env w1) F1 H1 := by
  refine ⟨B, F, env, w, c, ?_⟩
  unfold M3.bind at p
  cases e : f env w with
  | bad =>
    rw [e] at p
    exact (hbad _ _ p).elim
  | ok d w' =>
    rw [e] at p
    exact fun F' H' v g r => ⟨F', w', d, g, c.grow g, r, hg _ _ _ _ _ _ g p⟩
theorem T3b.mono {P P' : VK} (h : T3b M f σ H P) (i : ∀ v H, P v H → P' v H) : T3b M f σ H P' := by
  obtain ⟨B, F, env, w, c, p⟩ := h
  refine ⟨B, F, env, w, c, ?_⟩
  cases e : f env w with
  | bad => rw [e] at p; exact p.elim
  | ok d w' => rw [e] at p; exact fun F' H' v g r => i _ _ (p F' H' v g r)
theorem T3.mono {P P' : VK} (h : T3 M f σ H P) (i : ∀ v H, P v H → P' v H) : T3 M f σ H P' := by
  obtain ⟨B, F, env, w, c, p⟩ := h
  refine ⟨B, F, env, w, c, ?_⟩
  cases e : f env w with
  | bad => rw [e] at p; exact p.elim
  | ok d w' => rw [e] at p; exact fun F' H' v g r => i _ _ (p F' H' v g r)
theorem T3t.mono {f : M3 Bool} {P P' : Bool → Hp → Prop} (h : T3t M f σ H P) (i : ∀ v H, P v H → P' v H) : T3t M f σ H P' := by
  obtain ⟨B, F, env, w, c, p⟩ := h
  refine ⟨B, F, env, w, c, ?_⟩
  cases e : f env w with
  | bad => rw [e] at p; exact p.elim
  | ok d w' => rw [e] at p; exact fun F' H' g => i _ _ (p F' H' g)
theorem T3a.mono {f : M3 (List D)} {P P' : List V → Hp → Prop} (h : T3a M f σ H P) (i : ∀ v H, P v H → P' v H) : T3a M f σ H P' := by
  obtain ⟨B, F, env, w, c, p⟩ := h
  refine ⟨B, F, env, w, c, ?_⟩
  cases e : f env w with
  | bad => rw [e] at p; exact p.elim
  | ok d w' => rw [e] at p; exact fun F' H' v g r => i _ _ (p F' H' v g r)
theorem T3ab.mono {f : M3 (List D)} {P P' : List V → Hp → Prop} (h : T3ab M f σ H P) (i : ∀ v H, P v H → P' v H) : T3ab M f σ H P' := by
  obtain ⟨B, F, env, w, c, p⟩ := h
  refine ⟨B, F, env, w, c, ?_⟩
  cases e : f env w with
  | bad => rw [e] at p; exact p.elim
  | ok d w' => rw [e] at p; exact fun F' H' v g r => i _ _ (p F' H' v g r)
theorem T3ab.bind' {β : Type} {f : M3 (List D)} {kk : List D → M3 β} {P : R3 β → FS → Hp → Prop} (c : Cor M B F env w σ H) (p : P ((f.bind kk) env w) F H)
    (hbad : ∀ F H, ¬ P .bad F H) (hg : ∀ r F H F' H' w', Grow M F H F' w' H' → P r F H → P r F' H') :
    T3ab M f σ H fun vs H1 => ∃ F1 w1 ds, Grow M F H F1 w1 H1 ∧ Cor M B F1 env w1 σ H1 ∧ RelBs M F1 H1 env σ ds vs ∧ P (kk ds env w1) F1 H1 := by
  refine ⟨B, F, env, w, c, ?_⟩
  unfold M3.bind at p
  cases e : f env w with
  | bad =>
    rw [e] at p
    exact (hbad _ _ p).elim
  | ok d w' =>
    rw [e] at p
    exact fun F' H' v g r => ⟨F', w', d, g, c.grow g, r, hg _ _ _ _ _ _ g p⟩
theorem PostAB.grow {r : R3 (List D)} {Q : List V → Hp → Prop} {F' : FS} {H' : Hp} {w' : Wd} (g : Grow M F H F' w' H') (p : PostAB M F H env σ r Q) : PostAB M F' H' env σ r Q := by
  cases r with
  | bad => exact p
  | ok d w2 => exact fun F2 H2 v g2 r => p F2 H2 v (g.trans g2) r
theorem PostB.grow {r : R3 D} {Q : VK} {F' : FS} {H' : Hp} {w' : Wd} (g : Grow M F H F' w' H') (p : PostB M F H env σ r Q) : PostB M F' H' env σ r Q := by
  cases r with
  | bad => exact p
  | ok d w2 => exact fun F2 H2 v g2 r => p F2 H2 v (g.trans g2) r
theorem RelB.grow {F' : FS} {H' : Hp} {w' : Wd} {d : D} {v : V} (g : Grow M F H F' w' H') (r : RelB M F H env σ d v) : RelB M F' H' env σ d v := by
  rcases r with r | r
  · exact .inl (RelD.mono g.sub g.ext _ _ r)
  · exact .inr r
end
theorem RelBs.grow {F F' : FS} {M : Ms} {env : Env3} {σ : Sl} {H H' : Hp} {w' : Wd} (g : Grow M F H F' w' H') : ∀ {ds : List D} {vs : List V}, RelBs M F H env σ ds vs → RelBs M F' H' env σ ds vs
  | [], _, h => h
  | d :: ds, _, ⟨x, xs, e, r, t⟩ => ⟨x, xs, e, r.grow g, RelBs.grow g t⟩
theorem RelDs.b {F : FS} {M : Ms} {env : Env3} {σ : Sl} {H : Hp} : ∀ {ds : List D} {vs : List V}, RelDs M F H ds vs → RelBs M F H env σ ds vs
  | [], _, h => h
  | d :: ds, _, ⟨x, xs, e, r, t⟩ => ⟨x, xs, e, .inl r, RelDs.b t⟩
end L3

set_option Elab.async false
set_option linter.all false
set_option maxRecDepth 100000
set_option maxHeartbeats 4000000
/-! L3Expr: expressions as plain functions. -/
namespace L3
open PySem PySem.Spec PyProof.Rows L2

section
variable {M : Ms} {B : Bs} {F : FS} {env : Env3} {w : Wd} {σ : Sl} {H : Hp} {Q : VK}
theorem Post.val {d : D} {v : V} (c : Cor M B F env w σ H) (p : Post M F H (.ok d w) Q) (r : RelD M F H d v) : Q v H := p F H v c.self r
theorem Post.lst {ds : List D} {xs : List V} {a : Addr} (c : Cor M B F env w σ H) (r : RelDs M F H ds xs) (p : Post M F H (.ok (.lst ds) w) Q) (ha : H a = none) : Q (.ref a) (upd H a (.lst xs)) := by
  have g := Grow.new (o := .lst xs) c.gd.dom c.gd.world ha
  exact p _ _ _ g ⟨a, xs, rfl, ⟨.inr rfl, upd_same⟩, RelDs.mono g.sub g.ext _ _ r⟩
theorem Post.tup {ds : List D} {xs : List V} {a : Addr} (c : Cor M B F env w σ H) (r : RelDs M F H ds xs) (p : Post M F H (.ok (.tup ds) w) Q) (ha : H a = none) : Q (.ref a) (upd H a (.tup xs)) := by
  have g := Grow.new (o := .tup xs) c.gd.dom c.gd.world ha
  exact p _ _ _ g ⟨a, xs, rfl, upd_same, RelDs.mono g.sub g.ext _ _ r⟩
theorem Cor.lst {ds : List D} {v : V} (c : Cor M B F env w σ H) (r : RelB M F H env σ (.lst ds) v) : ∃ a xs, v = .ref a ∧ H a = some (.lst xs) ∧ RelDs M F H ds xs := by
  rcases r with ⟨a, xs, rfl, q, r⟩ | ⟨i, e, es⟩
  · exact ⟨a, xs, rfl, q.2, r⟩
  · obtain ⟨v', e', a, rfl, _, _, _, xs, h, r⟩ := c.own i _ e
    rw [es] at e'
    cases e'
    exact ⟨a, xs, rfl, h, r⟩
theorem Cor.tup {ds : List D} {v : V} (c : Cor M B F env w σ H) (r : RelB M F H env σ (.tup ds) v) : ∃ a xs, v = .ref a ∧ SqT3 M.K F H a xs ∧ RelDs M F H ds xs := by
  rcases r with ⟨a, xs, rfl, q, r⟩ | ⟨i, e, es⟩
  · exact ⟨a, xs, rfl, q, r⟩
  · obtain ⟨v', e', a, rfl, _, _, _, z⟩ := c.own i _ e
    exact z.elim
theorem Cor.int {i : Int} {v : V} (c : Cor M B F env w σ H) (r : RelB M F H env σ (.int i) v) : v = .int i := by
  rcases r with r | ⟨i, e, es⟩
  · exact r
  · obtain ⟨v', e', a, rfl, _, _, _, z⟩ := c.own i _ e
    exact z.elim
theorem Cor.str {i : Str} {v : V} (c : Cor M B F env w σ H) (r : RelB M F H env σ (.str i) v) : v = .str i := by
  rcases r with r | ⟨i, e, es⟩
  · exact r
  · obtain ⟨v', e', a, rfl, _, _, _, z⟩ := c.own i _ e
    exact z.elim
theorem Cor.bl {i : Bool} {v : V} (c : Cor M B F env w σ H) (r : RelB M F H env σ (.bl i) v) : v = .bl i := by
  rcases r with r | ⟨i, e, es⟩
  · exact r
  · obtain ⟨v', e', a, rfl, _, _, _, z⟩ := c.own i _ e
    exact z.elim
theorem Cor.non {v : V} (c : Cor M B F env w σ H) (r : RelB M F H env σ .non v) : v = .non := by
  rcases r with r | ⟨i, e, es⟩
  · exact r
  · obtain ⟨v', e', a, rfl, _, _, _, z⟩ := c.own i _ e
    exact z.elim
end

/-! ### names, constants -/
def evar (i : Nat) : M3 D := fun env w => match env[i]? with
  | some (some (false, d)) => .ok d w
  | _ => .bad
def evarB (i : Nat) : M3 D := fun env w => match env[i]? with
  | some (some (_, d)) => .ok d w
  | _ => .bad
def cst (d : D) : M3 D := fun _ w => .ok d w
section
variable {X : Cx} {M : Ms} {e a b c : Expr} {pos p : Pos} {f fa fb fc : M3 D}
theorem e3_var (i : Nat) {x : Str} (hN : X.N[i]? = some x := by rfl) (hv : Vis X.env.scope x := by first | exact Or.inl rfl | exact Or.inr (Or.inl rfl) | exact Or.inr (Or.inr rfl)) (hd : (x == ("__debug__" : Str)) = false := by decide)
    (hcd : (x == ("__classdict__" : Str)) = false := by decide) : PE X (.Name x pos) (T3 M (evar i)) := by
  refine PEi (pe_var hN hv hd hcd) fun σ H Q h => ?_
  obtain ⟨B, F, env, w, c, p⟩ := h
  unfold evar at p
  split at p
  · rename_i d e
    obtain ⟨v, q, r⟩ := c.fro i d e
    exact ⟨v, q, Post.val c p r⟩
  · exact p.elim
theorem e3_varB (i : Nat) {x : Str} (hN : X.N[i]? = some x := by rfl) (hv : Vis X.env.scope x := by first | exact Or.inl rfl | exact Or.inr (Or.inl rfl) | exact Or.inr (Or.inr rfl)) (hd : (x == ("__debug__" : Str)) = false := by decide)
    (hcd : (x == ("__classdict__" : Str)) = false := by decide) : PE X (.Name x pos) (T3b M (evarB i)) := by
  refine PEi (pe_var hN hv hd hcd) fun σ H Q h => ?_
  obtain ⟨B, F, env, w, c, p⟩ := h
  unfold evarB at p
  split at p
  · rename_i o d e
    cases o with
    | false =>
      obtain ⟨v, q, r⟩ := c.fro i d e
      exact ⟨v, q, p F H v c.self (.inl r)⟩
    | true =>
      obtain ⟨v, q, r⟩ := c.own i d e
      exact ⟨v, q, p F H v c.self (.inr ⟨i, e, q⟩)⟩
  · exact p.elim
theorem e3_cst {d : D} {v : V} (h : PE X e (tC v)) (r : ∀ F H, RelD M F H d v) : PE X e (T3 M (cst d)) := by
  refine PEi h fun σ H Q h => ?_
  obtain ⟨B, F, env, w, c, p⟩ := h
  exact Post.val c p (r F H)
theorem e3_int {i : Int} {j : Nat} : PE X (.Constant (.int i) j pos) (T3 M (cst (.int i))) := e3_cst pe_int fun _ _ => rfl
theorem e3_bl {i : Bool} {j : Nat} : PE X (.Constant (.bool i) j pos) (T3 M (cst (.bl i))) := e3_cst pe_bl fun _ _ => rfl
theorem e3_non {j : Nat} : PE X (.Constant .none j pos) (T3 M (cst .non)) := e3_cst pe_non fun _ _ => rfl
theorem e3_str {i : String} {j : Nat} : PE X (.Constant (.str i) j pos) (T3 M (cst (.str i))) := e3_cst pe_str fun _ _ => rfl
/-- a module's name that holds a text -/
theorem e3_gstr {x : Str} {s : Str} {t : Tok} (hg : Gl X x) (hm : X.mg x = some (.str s t)) (hd : (x == ("__debug__" : Str)) = false := by decide) : PE X (.Name x pos) (T3 M (cst (.str s))) :=
  e3_cst (pe_glob (v := .str s) hg hm ⟨t, rfl⟩ hd) fun _ _ => rfl

/-! ### operators -/
def m2 (g : D → D → Option D) (fa fb : M3 D) : M3 D := fa.bind fun x => fb.bind fun y => .opt (g x y)
def Lift2 (M : Ms) (r : R2) (g : D → D → Option D) : Prop := ∀ (B : Bs) (F : FS) (env : Env3) (w : Wd) (σ : Sl) (H : Hp) (dx dy d : D) (x y : V) (Q : VK),
  Cor M B F env w σ H → RelB M F H env σ dx x → RelB M F H env σ dy y → g dx dy = some d → Post M F H (.ok d w) Q → r x y H Q
theorem t3_op {r : R2} {g : D → D → Option D} (l : Lift2 M r g) : ∀ σ H Q, T3 M (m2 g fa fb) σ H Q → tOp r (T3b M fa) (T3b M fb) σ H Q := by
  intro σ H Q h
  obtain ⟨B, F, env, w, c, p⟩ := h
  refine T3b.mono (T3b.bind c p) fun x H1 ⟨F1, w1, d1, g1, c1, r1, p1⟩ => ?_
  refine T3b.mono (T3b.bind c1 p1) fun y H2 ⟨F2, w2, d2, g2, c2, r2, p2⟩ => ?_
  unfold M3.opt at p2
  cases e : g d1 d2 with
  | none => rw [e] at p2; exact p2.elim
  | some d =>
    rw [e] at p2
    exact l B F2 env w2 σ H2 d1 d2 d x y Q c2 (r1.grow g2) r2 e p2
theorem e3_op {op : Operator} {r : R2} {g : D → D → Option D} (ho : OpR X (binaryOp op) r) (l : Lift2 M r g) (ha : PE X a (T3b M fa)) (hb : PE X b (T3b M fb)) : PE X (.BinOp a op b pos) (T3 M (m2 g fa fb)) :=
  PEi (pe_op ho ha hb) (t3_op l)
theorem e3_cmp {op : CmpOp} {r : R2} {g : D → D → Option D} (ho : OpR X (compareOp op) r) (l : Lift2 M r g) (ha : PE X a (T3b M fa)) (hb : PE X b (T3b M fb)) (hm : behindInMarks op b = false := by first | exact nobehind _ (by decide) (by decide) | rfl) :
    PE X (.Compare a [op] [b] pos) (T3 M (m2 g fa fb)) := PEi (pe_cmp ⟨fun pins s σ H Q I h => binT ha hb I h fun v u s2 x y H2 I2 rx ry q => ho pins s2 σ H2 x y v u Q I2 rx ry q⟩ hm) (t3_op l)
end

/-! ### arithmetic, equality -/
theorem OpR.or {X : Cx} {f : Value → Value → Sem Value} {r r' : R2} (h : OpR X f r) (h' : OpR X f r') : OpR X f (fun x y H Q => r x y H Q ∨ r' x y H Q) := by
  intro pins s σ H x y v u Q I rx ry q
  rcases q with q | q
  · exact h pins s σ H x y v u Q I rx ry q
  · exact h' pins s σ H x y v u Q I rx ry q
abbrev SL : Nat := 16777216
theorem SL_eq : sizeLine = SL := sizeLine_eq
def dAdd : D → D → Option D
  | .int i, .int j => some (.int (i + j))
  | .str x, .str y => if x.length + y.length ≤ SL then some (.str (x ++ y)) else none
  | .lst x, .lst y => if x.length + y.length ≤ SL then some (.lst (x ++ y)) else none
  | .tup x, .tup y => if !x.isEmpty && decide (x.length + y.length ≤ SL) then some (.tup (x ++ y)) else none
  | _, _ => none
def dSub : D → D → Option D
  | .int i, .int j => some (.int (i - j))
  | _, _ => none
def dMul : D → D → Option D
  | .int i, .int j => if (-(2 ^ 64) < i ∧ i < 2 ^ 64) ∨ (-(2 ^ 64) < j ∧ j < 2 ^ 64) then some (.int (i * j)) else none
  | .lst x, .int k => if -(2 ^ 63) ≤ k ∧ k < 2 ^ 63 ∧ x.length * k.toNat ≤ SL then some (.lst (List.replicate k.toNat x).flatten) else none
  | .str x, .int k => if 2 ≤ k ∧ k ≤ 1000 ∧ 0 < x.length ∧ x.length ≤ 1000 then some (.str ⟨(List.replicate k.toNat x.cps).foldl (· ++ ·) #[]⟩) else none
  | _, _ => none
def dMod : D → D → Option D
  | .int i, .int j => if 0 < j then some (.int (i % j)) else none
  | _, _ => none
def dDiv : D → D → Option D
  | .int i, .int j => if 0 < j ∧ j < 1073741824 then some (.int (i / j)) else none
  | _, _ => none
def dPow : D → D → Option D
  | .int i, .int j => if 0 ≤ j ∧ j ≤ 1000000 ∧ i.natAbs < 2 ^ 64 then some (.int (i ^ j.toNat)) else none
  | _, _ => none
section
variable {X : Cx} {M : Ms}
theorem lift_int {C : Int → Int → Prop} {g : Int → Int → V} {G : D → D → Option D} (hG : ∀ x y d, G x y = some d → ∃ i j, x = .int i ∧ y = .int j ∧ C i j ∧ ∀ F H, RelD M F H d (g i j)) : Lift2 M (rI C g) G := by
  intro B F env w σ H dx dy d x y Q c rx ry e p
  obtain ⟨i, j, rfl, rfl, hc, r⟩ := hG _ _ _ e
  exact ⟨i, j, c.int rx, c.int ry, hc, Post.val c p (r F H)⟩
theorem lift_int0 {g : Int → Int → V} {G : D → D → Option D} (hG : ∀ x y d, G x y = some d → ∃ i j, x = .int i ∧ y = .int j ∧ ∀ F H, RelD M F H d (g i j)) : Lift2 M (rI0 g) G := by
  intro B F env w σ H dx dy d x y Q c rx ry e p
  obtain ⟨i, j, rfl, rfl, r⟩ := hG _ _ _ e
  exact ⟨i, j, c.int rx, c.int ry, Post.val c p (r F H)⟩
theorem lift_sub : Lift2 M (rI0 fun i j => .int (i - j)) dSub := lift_int0 fun x y d e => by
  unfold dSub at e
  split at e
  · cases e; exact ⟨_, _, rfl, rfl, fun _ _ => rfl⟩
  · cases e
theorem lift_mod : Lift2 M (rI (fun _ j => 0 < j) fun i j => .int (i % j)) dMod := lift_int fun x y d e => by
  unfold dMod at e
  split at e
  · split at e
    · rename_i h
      cases e; exact ⟨_, _, rfl, rfl, h, fun _ _ => rfl⟩
    · cases e
  · cases e
theorem lift_div : Lift2 M (rI CDiv fun i j => .int (i / j)) dDiv := lift_int fun x y d e => by
  unfold dDiv at e
  split at e
  · split at e
    · rename_i h
      cases e; exact ⟨_, _, rfl, rfl, h, fun _ _ => rfl⟩
    · cases e
  · cases e
theorem lift_pow : Lift2 M (rI CPow fun i j => .int (i ^ j.toNat)) dPow := lift_int fun x y d e => by
  unfold dPow at e
  split at e
  · split at e
    · rename_i h
      cases e; exact ⟨_, _, rfl, rfl, h, fun _ _ => rfl⟩
    · cases e
  · cases e
def rAddD (K : PySem.W.Frag) : R2 := fun x y H Q => (rI0 (fun i j => .int (i + j)) x y H Q) ∨ (∃ i j : Str, x = .str i ∧ y = .str j ∧ i.length + j.length ≤ sizeLine ∧ Q (.str (i ++ j)) H) ∨ rCat x y H Q ∨ rCatT K x y H Q
theorem op_addD : OpR X (binaryOp .Add) (rAddD X.K) := OpR.or op_add (OpR.or op_add_str (OpR.or op_cat op_catT))
theorem lift_add {K : PySem.W.Frag} (hK : M.K = K) : Lift2 M (rAddD K) dAdd := by
  subst hK
  intro B F env w σ H dx dy d x y Q c rx ry e p
  unfold dAdd at e
  split at e
  · cases e
    exact .inl ⟨_, _, c.int rx, c.int ry, Post.val c p rfl⟩
  · split at e
    · rename_i h
      cases e
      exact .inr (.inl ⟨_, _, c.str rx, c.str ry, by rw [SL_eq]; exact h, Post.val c p rfl⟩)
    · cases e
  · split at e
    · rename_i h
      cases e
      obtain ⟨a, xs, rfl, h1, r1⟩ := c.lst rx
      obtain ⟨b, ys, rfl, h2, r2⟩ := c.lst ry
      refine .inr (.inr (.inl ⟨a, b, xs, ys, rfl, rfl, h1, h2, by rw [SL_eq, ← r1.length, ← r2.length]; exact h, fun q hq => Post.lst c (r1.append r2) p hq⟩))
    · cases e
  · split at e
    · rename_i h
      cases e
      obtain ⟨a, xs, rfl, h1, r1⟩ := c.tup rx
      obtain ⟨b, ys, rfl, h2, r2⟩ := c.tup ry
      simp only [Bool.and_eq_true, Bool.not_eq_true', decide_eq_true_eq] at h
      refine .inr (.inr (.inr ⟨a, b, xs, ys, rfl, rfl, h1.sq, h2.sq, ?_, by rw [SL_eq, ← r1.length, ← r2.length]; exact h.2, fun z => ?_, fun z q hq => Post.tup c (r1.append r2) p hq⟩))
      · intro z
        subst z
        have := r1.length
        have h1 := h.1
        rw [List.isEmpty_eq_false_iff] at h1
        exact h1 (List.eq_nil_of_length_eq_zero this)
      · subst z
        have := r2.length
        have z2 := List.eq_nil_of_length_eq_zero this
        subst z2
        rw [List.append_nil] at p
        exact Post.val c p ⟨a, xs, rfl, h1, r1⟩
    · cases e
  · cases e
def rMulS : R2 := fun x y H Q => ∃ (z : Str) (k : Int), x = .str z ∧ y = .int k ∧ 2 ≤ k ∧ k ≤ 1000 ∧ 0 < z.length ∧ z.length ≤ 1000 ∧ Q (.str ⟨(List.replicate k.toNat z.cps).foldl (· ++ ·) #[]⟩) H
theorem op_mulS : OpR X (binaryOp .Mult) rMulS := by
  intro pins s σ H x y v u Q I rx ry h
  obtain ⟨z, k, rfl, rfl, h1, h2, h3, h4, q⟩ := h
  obtain ⟨t, rfl⟩ := rx
  obtain ⟨t', rfl⟩ := ry
  have e1 : ¬ k < 1 := by omega
  have e2 : (k == 1 || z.length == 0) = false := by
    have a : (k == 1) = false := by simp; omega
    have b : (z.length == 0) = false := by simp; omega
    rw [a, b]; rfl
  refine PySem.P.mul_str ?_ ?_ ?_ ?_
  · have a : decide (k < -(2 ^ 63 : Int)) = false := decide_eq_false (by omega)
    have b : decide (k ≥ 2 ^ 63) = false := decide_eq_false (by omega)
    rw [a, b]; rfl
  · intro _ _ z2
    have : (9007199254740992 : Int) ≤ (2 ^ 63 - 1) / k := by
      refine Int.le_ediv_of_mul_le (by omega) ?_
      have : (9007199254740992 : Int) * k ≤ 9007199254740992 * 1000 := Int.mul_le_mul_of_nonneg_left h2 (by decide)
      omega
    omega
  · intro _ _
    unfold Builtin.Str.tooLong
    rw [sizeLine_eq]
    refine decide_eq_false ?_
    have : z.length * k.toNat ≤ 1000 * 1000 := Nat.mul_le_mul h4 (by omega)
    omega
  · rw [if_neg e1, e2]
    simp only [Bool.false_eq_true, if_false]
    refine ⟨?_, .str _, H, I.tok _, ⟨_, rfl⟩, q⟩
    have len : ∀ (n : Nat) (acc : Array Nat), ((List.replicate n z.cps).foldl (· ++ ·) acc).size = acc.size + n * z.cps.size := by
      intro n
      induction n with
      | zero => intro acc; simp
      | succ n ih =>
        intro acc
        rw [List.replicate_succ, List.foldl_cons, ih, Array.size_append, Nat.succ_mul]
        omega
    have h5 := len k.toNat #[]
    show ((List.replicate k.toNat z.cps).foldl (· ++ ·) #[]).size ≤ sizeLine
    rw [h5, sizeLine_eq]
    have h6 : z.cps.size ≤ 1000 := h4
    have : k.toNat * z.cps.size ≤ 1000 * 1000 := Nat.mul_le_mul (by omega) h6
    simp
    omega
def rMulD : R2 := fun x y H Q => (rI CMul (fun i j => .int (i * j)) x y H Q) ∨ rRep x y H Q ∨ rMulS x y H Q
theorem op_mulD : OpR X (binaryOp .Mult) rMulD := OpR.or op_mul (OpR.or op_rep op_mulS)
theorem RelDs.rep {F : FS} {H : Hp} {ds : List D} {xs : List V} (r : RelDs M F H ds xs) : ∀ n : Nat, RelDs M F H (List.replicate n ds).flatten (List.replicate n xs).flatten
  | 0 => rfl
  | n + 1 => by
    rw [List.replicate_succ, List.replicate_succ, List.flatten_cons, List.flatten_cons]
    exact r.append (RelDs.rep r n)
theorem lift_mul : Lift2 M rMulD dMul := by
  intro B F env w σ H dx dy d x y Q c rx ry e p
  unfold dMul at e
  split at e
  · split at e
    · rename_i h
      cases e
      exact .inl ⟨_, _, c.int rx, c.int ry, h, Post.val c p rfl⟩
    · cases e
  · split at e
    · rename_i h
      cases e
      obtain ⟨a, xs, rfl, h1, r1⟩ := c.lst rx
      exact .inr (.inl ⟨a, _, xs, rfl, c.int ry, h1, h.1, h.2.1, by rw [SL_eq, ← r1.length]; exact h.2.2, fun q hq => Post.lst c (r1.rep _) p hq⟩)
    · cases e
  · split at e
    · rename_i h
      cases e
      exact .inr (.inr ⟨_, _, c.str rx, c.int ry, h.1, h.2.1, h.2.2.1, h.2.2.2, Post.val c p rfl⟩)
    · cases e
  · cases e
end
mutual
def pd : D → Option PyData
  | .non => some .none
  | .bl b => some (.bool b)
  | .int i => some (.int i)
  | .str s => some (.str s)
  | .tup ds => (pds ds).map .tuple
  | .lst ds => (pds ds).map .list
  | _ => none
def pds : List D → Option (List PyData)
  | [] => some []
  | d :: ds => (pd d).bind fun x => (pds ds).map fun xs => x :: xs
end
def dEq (a b : D) : Option D := (pd a).bind fun x => (pd b).bind fun y => if SeqAt.shaped x && SeqAt.shaped y then some (.bl (PyData.eqv x y)) else none
def dNe (a b : D) : Option D := (pd a).bind fun x => (pd b).bind fun y => if SeqAt.shaped x && SeqAt.shaped y then some (.bl (!PyData.eqv x y)) else none
section
variable {X : Cx} {M : Ms} {B : Bs} {F : FS} {env : Env3} {w : Wd} {σ : Sl} {H : Hp}
mutual
theorem dp_of : ∀ (d : D) (v : V) (x : PyData), RelD M F H d v → pd d = some x → Dp M.K H v x
  | .non, v, x, r, e => by
    have r : v = .non := r
    subst r; cases e; exact .non
  | .bl b, v, x, r, e => by
    have r : v = .bl b := r
    subst r; cases e; exact .bl b
  | .int i, v, x, r, e => by
    have r : v = .int i := r
    subst r; cases e; exact .int i
  | .str i, v, x, r, e => by
    have r : v = .str i := r
    subst r; cases e; exact .str i
  | .tup ds, v, x, r, e => by
    obtain ⟨a, xs, rfl, q, r⟩ := r
    have e : (pds ds).map PyData.tuple = some x := e
    cases h : pds ds with
    | none => rw [h] at e; cases e
    | some ys =>
      rw [h] at e; cases e
      exact .tup q.sq (dps_of ds xs ys r h)
  | .lst ds, v, x, r, e => by
    obtain ⟨a, xs, rfl, q, r⟩ := r
    have e : (pds ds).map PyData.list = some x := e
    cases h : pds ds with
    | none => rw [h] at e; cases e
    | some ys =>
      rw [h] at e; cases e
      exact .lst q.sq (dps_of ds xs ys r h)
  | .dic false _, _, _, _, e => by cases e
  | .dic true _, _, _, _, e => by cases e
  | .obj _ _, _, _, _, e => by cases e
  | .exc _ _ _, _, _, _, e => by cases e
  | .deck, _, _, _, e => by cases e
  | .glb _, _, _, _, e => by cases e
theorem dps_of : ∀ (ds : List D) (vs : List V) (xs : List PyData), RelDs M F H ds vs → pds ds = some xs → DpAll M.K H vs xs
  | [], vs, xs, r, e => by
    have r : vs = [] := r
    subst r; cases e; exact .nil
  | d :: ds, vs, xs, r, e => by
    obtain ⟨v, us, rfl, r1, r2⟩ := r
    have e : ((pd d).bind fun x => (pds ds).map fun xs => x :: xs) = some xs := e
    cases h : pd d with
    | none => rw [h] at e; cases e
    | some y =>
      rw [h] at e
      cases h2 : pds ds with
      | none => rw [h2] at e; cases e
      | some ys =>
        rw [h2] at e; cases e
        exact .cons (dp_of d v y r1 h) (dps_of ds us ys r2 h2)
end
theorem Cor.dp {d : D} {v : V} {x : PyData} (c : Cor M B F env w σ H) (r : RelB M F H env σ d v) (e : pd d = some x) : Dp M.K H v x := by
  rcases r with r | ⟨i, ei, es⟩
  · exact dp_of d v x r e
  · cases d with
    | lst ds =>
      obtain ⟨a, xs, rfl, h, r⟩ := c.lst (.inr ⟨i, ei, es⟩)
      have e : (pds ds).map PyData.list = some x := e
      cases h2 : pds ds with
      | none => rw [h2] at e; cases e
      | some ys =>
        rw [h2] at e; cases e
        exact .lst (.of h) (dps_of ds xs ys r h2)
    | dic t _ => cases t <;> cases e
    | obj _ _ => cases e
    | _ =>
      obtain ⟨v', e', a, rfl, _, _, _, z⟩ := c.own i _ ei
      exact z.elim
theorem lift_eq {K : PySem.W.Frag} (hK : M.K = K) : Lift2 M (rEqD K) dEq := by
  subst hK
  intro B F env w σ H dx dy d x y Q c rx ry e p
  unfold dEq at e
  cases h1 : pd dx with
  | none => rw [h1] at e; cases e
  | some a =>
    rw [h1] at e
    cases h2 : pd dy with
    | none => rw [h2] at e; cases e
    | some b =>
      rw [h2] at e
      dsimp only [Option.bind] at e
      split at e
      · rename_i hs
        cases e
        rw [Bool.and_eq_true] at hs
        exact ⟨a, b, c.dp rx h1, c.dp ry h2, hs.1, hs.2, Post.val c p rfl⟩
      · cases e
theorem lift_ne {K : PySem.W.Frag} (hK : M.K = K) : Lift2 M (rNeD K) dNe := by
  subst hK
  intro B F env w σ H dx dy d x y Q c rx ry e p
  unfold dNe at e
  cases h1 : pd dx with
  | none => rw [h1] at e; cases e
  | some a =>
    rw [h1] at e
    cases h2 : pd dy with
    | none => rw [h2] at e; cases e
    | some b =>
      rw [h2] at e
      dsimp only [Option.bind] at e
      split at e
      · rename_i hs
        cases e
        rw [Bool.and_eq_true] at hs
        exact ⟨a, b, c.dp rx h1, c.dp ry h2, hs.1, hs.2, Post.val c p rfl⟩
      · cases e
end
def dCmp (p : Int → Int → Bool) : D → D → Option D
  | .int i, .int j => some (.bl (p i j))
  | _, _ => none
theorem lift_cmp {M : Ms} {p : Int → Int → Bool} : Lift2 M (rI0 fun i j => .bl (p i j)) (dCmp p) := lift_int0 fun x y d e => by
  unfold dCmp at e
  split at e
  · cases e; exact ⟨_, _, rfl, rfl, fun _ _ => rfl⟩
  · cases e

/-! ### tests -/
/-- a value that is True or False, as a test -/
def tst (f : M3 D) : M3 Bool := f.bind fun d => match d with
  | .bl b => M3.ret b
  | _ => fun _ _ => .bad
/-- a value's truth -/
def dTru : D → Option Bool
  | .non => some false
  | .bl b => some b
  | .int i => some (i != 0)
  | .str y => if y.length ≤ SL then some ((y.length : Int) != 0) else none
  | .lst ds => some (!ds.isEmpty)
  | .tup ds => some (!ds.isEmpty)
  | _ => none
def tru (f : M3 D) : M3 Bool := f.bind fun d => .opt (dTru d)
section
variable {X : Cx} {M : Ms} {e a b c : Expr} {rest : List Expr} {pos p : Pos} {f fa fb fc : M3 D} {ga gb gc : M3 Bool}
theorem t3_tst : ∀ σ H Q, T3t M (tst f) σ H Q → tTest (T3 M f) σ H Q := by
  intro σ H Q h
  obtain ⟨B, F, env, w, c, p⟩ := h
  refine T3.mono (T3.bind' (P := fun r F H => PostBs M F H r Q) c p (fun _ _ h => h) fun _ _ _ _ _ _ g p => p.grow g) fun v H1 ⟨F1, w1, d, g1, c1, r1, p1⟩ => ?_
  cases d with
  | bl k => exact ⟨k, r1, p1 F1 H1 c1.self⟩
  | _ => exact p1.elim
theorem e3_tst (h : PE X e (T3 M f)) (he : ∀ whole, isTrue e X.env whole = (do let v ← whole; standAt e.pos; holding [v] (truthy v)) := by intro _; rfl) : PT X e (T3t M (tst f)) :=
  PTi (pt_val h he) t3_tst
theorem e3_tcmp {op : CmpOp} {r : R2} {g : D → D → Option D} (ho : OpR X (compareOp op) r) (l : Lift2 M r g) (ha : PE X a (T3b M fa)) (hb : PE X b (T3b M fb)) (hm : behindInMarks op b = false := by first | exact nobehind _ (by decide) (by decide) | rfl) :
    PT X (.Compare a [op] [b] pos) (T3t M (tst (m2 g fa fb))) :=
  PTi (pt_cmpR ho ha hb hm) fun σ H Q h => t3_tst_op l σ H Q h
where
  t3_tst_op {r : R2} {g : D → D → Option D} (l : Lift2 M r g) : ∀ σ H Q, T3t M (tst (m2 g fa fb)) σ H Q → tTest (tOp r (T3b M fa) (T3b M fb)) σ H Q := fun σ H Q h => t3_op l _ _ _ (t3_tst _ _ _ h)
theorem e3_tru (h : PE X e (T3b M f)) (he : ∀ whole, isTrue e X.env whole = (do let v ← whole; standAt e.pos; holding [v] (truthy v)) := by intro _; rfl) (hK : M.K = X.K := by rfl) : PT X e (T3t M (tru f)) := by
  refine PTi (pt_truth h he) fun σ H Q h => ?_
  obtain ⟨B, F, env, w, c, p⟩ := h
  refine T3b.mono (T3b.bind' (P := fun r F H => PostBs M F H r Q) c p (fun _ _ h => h) fun _ _ _ _ _ _ g p => p.grow g) fun v H1 ⟨F1, w1, d, g1, c1, r1, p1⟩ => ?_
  unfold M3.opt at p1
  cases ek : dTru d with
  | none => rw [ek] at p1; exact p1.elim
  | some k =>
    rw [ek] at p1
    refine ⟨k, ?_, p1 F1 H1 c1.self⟩
    rw [← hK]
    unfold dTru at ek
    split at ek
    · cases ek; rw [c1.non r1]; exact rfl
    · cases ek; rw [c1.bl r1]; exact rfl
    · cases ek; rw [c1.int r1]; exact rfl
    · split at ek
      · rename_i hl
        cases ek; rw [c1.str r1]; exact ⟨by rw [SL_eq]; exact hl, rfl⟩
      · cases ek
    · cases ek
      obtain ⟨a, xs, rfl, h1, r2⟩ := c1.lst r1
      refine .inl ⟨xs, .of h1, ?_⟩
      have := r2.length
      rename_i ds _
      cases ds <;> cases xs <;> first | rfl | (simp at this)
    · cases ek
      obtain ⟨a, xs, rfl, h1, r2⟩ := c1.tup r1
      refine .inr (.inl ⟨xs, h1.sq, ?_⟩)
      have := r2.length
      rename_i ds _
      cases ds <;> cases xs <;> first | rfl | (simp at this)
    · cases ek
def tand (ga gb : M3 Bool) : M3 Bool := ga.bind fun c => if c = true then gb else M3.ret false
def tor (ga gb : M3 Bool) : M3 Bool := ga.bind fun c => if c = true then M3.ret true else gb
def tnot (ga : M3 Bool) : M3 Bool := ga.bind fun c => M3.ret (!c)
theorem T3t.bind {g : M3 Bool} {k : Bool → M3 Bool} {B : Bs} {F : FS} {env : Env3} {w : Wd} {σ : Sl} {H : Hp} {Q : Bool → Hp → Prop} (c : Cor M B F env w σ H) (p : PostBs M F H ((g.bind k) env w) Q) :
    T3t M g σ H fun b H1 => ∃ F1 w1, Grow M F H F1 w1 H1 ∧ Cor M B F1 env w1 σ H1 ∧ PostBs M F1 H1 (k b env w1) Q :=
  T3t.bind' (P := fun r F H => PostBs M F H r Q) c p (fun _ _ h => h) fun _ _ _ _ _ _ g p => p.grow g
theorem e3_and1 (ha : PT X a (T3t M ga)) : PW X (.BoolOp .And [a] pos) (T3t M ga) := pw_and1 ha
theorem e3_or1 (ha : PT X a (T3t M ga)) : PW X (.BoolOp .Or [a] pos) (T3t M ga) := pw_or1 ha
theorem e3_and (ha : PT X a (T3t M ga)) (hb : PW X (.BoolOp .And (b :: rest) pos) (T3t M gb)) : PW X (.BoolOp .And (a :: b :: rest) pos) (T3t M (tand ga gb)) := by
  refine PWi (pw_and ha hb) fun σ H Q h => ?_
  obtain ⟨B, F, env, w, c, p⟩ := h
  refine T3t.mono (T3t.bind c p) fun k H1 ⟨F1, w1, g1, c1, p1⟩ => ?_
  cases k with
  | true =>
    rw [if_pos rfl] at p1 ⊢
    exact ⟨B, F1, env, w1, c1, p1⟩
  | false =>
    rw [if_neg Bool.false_ne_true] at p1 ⊢
    exact p1 F1 H1 c1.self
theorem e3_or (ha : PT X a (T3t M ga)) (hb : PW X (.BoolOp .Or (b :: rest) pos) (T3t M gb)) : PW X (.BoolOp .Or (a :: b :: rest) pos) (T3t M (tor ga gb)) := by
  refine PWi (pw_or ha hb) fun σ H Q h => ?_
  obtain ⟨B, F, env, w, c, p⟩ := h
  refine T3t.mono (T3t.bind c p) fun k H1 ⟨F1, w1, g1, c1, p1⟩ => ?_
  cases k with
  | false =>
    rw [if_neg Bool.false_ne_true] at p1 ⊢
    exact ⟨B, F1, env, w1, c1, p1⟩
  | true =>
    rw [if_pos rfl] at p1 ⊢
    exact p1 F1 H1 c1.self
theorem e3_not (ha : PT X a (T3t M ga)) : PT X (.UnaryOp .Not a pos) (T3t M (tnot ga)) := by
  refine PTi (pt_not ha) fun σ H Q h => ?_
  obtain ⟨B, F, env, w, c, p⟩ := h
  exact T3t.mono (T3t.bind c p) fun k H1 ⟨F1, w1, g1, c1, p1⟩ => p1 F1 H1 c1.self
/-- a value from a test: a and b, a or b, not a where all are True or False -/
def vand (fa fb : M3 D) : M3 D := fa.bind fun x => match x with
  | .bl true => fb
  | .bl false => M3.ret (.bl false)
  | _ => fun _ _ => .bad
def vor (fa fb : M3 D) : M3 D := fa.bind fun x => match x with
  | .bl true => M3.ret (.bl true)
  | .bl false => fb
  | _ => fun _ _ => .bad
def vnot (fa : M3 D) : M3 D := fa.bind fun x => match x with
  | .bl c => M3.ret (.bl (!c))
  | _ => fun _ _ => .bad
theorem e3_one {op : BoolOp} (h : PE X a (T3 M fa)) : PE X (.BoolOp op [a] pos) (T3 M fa) := pe_one h
theorem e3_vand (ha : PE X a (T3 M fa)) (hb : PE X (.BoolOp .And (b :: rest) pos) (T3 M fb)) : PE X (.BoolOp .And (a :: b :: rest) pos) (T3 M (vand fa fb)) := by
  refine PEi (pe_and ha hb) fun σ H Q h => ?_
  obtain ⟨B, F, env, w, c, p⟩ := h
  refine T3.mono (T3.bind c p) fun v H1 ⟨F1, w1, d, g1, c1, r1, p1⟩ => ?_
  split at p1
  · exact ⟨true, r1, by rw [if_pos rfl]; exact ⟨B, F1, env, w1, c1, p1⟩⟩
  · exact ⟨false, r1, by rw [if_neg Bool.false_ne_true]; exact Post.val c1 p1 rfl⟩
  · exact p1.elim
theorem e3_vor (ha : PE X a (T3 M fa)) (hb : PE X (.BoolOp .Or (b :: rest) pos) (T3 M fb)) : PE X (.BoolOp .Or (a :: b :: rest) pos) (T3 M (vor fa fb)) := by
  refine PEi (pe_or ha hb) fun σ H Q h => ?_
  obtain ⟨B, F, env, w, c, p⟩ := h
  refine T3.mono (T3.bind c p) fun v H1 ⟨F1, w1, d, g1, c1, r1, p1⟩ => ?_
  split at p1
  · exact ⟨true, r1, by rw [if_pos rfl]; exact Post.val c1 p1 rfl⟩
  · exact ⟨false, r1, by rw [if_neg Bool.false_ne_true]; exact ⟨B, F1, env, w1, c1, p1⟩⟩
  · exact p1.elim
theorem e3_vnot (ha : PE X a (T3 M fa)) : PE X (.UnaryOp .Not a pos) (T3 M (vnot fa)) := by
  refine PEi (pe_not ha) fun σ H Q h => ?_
  obtain ⟨B, F, env, w, c, p⟩ := h
  refine T3.mono (T3.bind c p) fun v H1 ⟨F1, w1, d, g1, c1, r1, p1⟩ => ?_
  split at p1
  · exact ⟨_, r1, Post.val c1 p1 rfl⟩
  · exact p1.elim
def vif (g : M3 Bool) (fa fb : M3 D) : M3 D := g.bind fun c => if c = true then fa else fb
theorem e3_if (hc : PT X c (T3t M ga)) (ha : PE X a (T3 M fa)) (hb : PE X b (T3 M fb)) : PE X (.IfExp c a b pos) (T3 M (vif ga fa fb)) := by
  refine PEi (pe_ifExp hc ha hb) fun σ H Q h => ?_
  obtain ⟨B, F, env, w, c, p⟩ := h
  refine T3t.mono (T3t.bind' (P := fun r F H => Post M F H r Q) c p (fun _ _ h => h) fun _ _ _ _ _ _ g p => p.grow g) fun k H1 ⟨F1, w1, g1, c1, p1⟩ => ?_
  cases k with
  | true =>
    rw [if_pos rfl] at p1 ⊢
    exact ⟨B, F1, env, w1, c1, p1⟩
  | false =>
    rw [if_neg Bool.false_ne_true] at p1 ⊢
    exact ⟨B, F1, env, w1, c1, p1⟩
end

/-! ### arguments, displays -/
def anil : M3 (List D) := M3.ret []
def acons (f : M3 D) (r : M3 (List D)) : M3 (List D) := f.bind fun x => r.bind fun xs => M3.ret (x :: xs)
def mtup (f : M3 (List D)) : M3 D := f.bind fun ds => if ds.length ≤ SL then M3.ret (.tup ds) else fun _ _ => .bad
def mlst (f : M3 (List D)) : M3 D := f.bind fun ds => if ds.length ≤ SL then M3.ret (.lst ds) else fun _ _ => .bad
section
variable {X : Cx} {M : Ms} {e a b c : Expr} {es : List Expr} {pos p : Pos} {f fa fb fc : M3 D} {fs : M3 (List D)}
theorem e3a_nil : PA X [] (T3a M anil) := PAi pa_nil fun σ H Q h => by
  obtain ⟨B, F, env, w, c, p⟩ := h
  exact p F H [] c.self rfl
theorem e3a_cons (ha : PE X e (T3 M f)) (hr : PA X es (T3a M fs)) (hs : starEach (e :: es) X.env = (false, eval e X.env) :: starEach es X.env := by rfl) : PA X (e :: es) (T3a M (acons f fs)) := by
  refine PAi (pa_cons ha hr hs) fun σ H Q h => ?_
  obtain ⟨B, F, env, w, c, p⟩ := h
  refine T3.mono (T3.bind' (P := fun r F H => PostA M F H r Q) c p (fun _ _ h => h) fun _ _ _ _ _ _ g p => p.grow g) fun v H1 ⟨F1, w1, d, g1, c1, r1, p1⟩ => ?_
  refine T3a.mono (T3a.bind' (P := fun r F H => PostA M F H r Q) c1 p1 (fun _ _ h => h) fun _ _ _ _ _ _ g p => p.grow g) fun vs H2 ⟨F2, w2, ds, g2, c2, r2, p2⟩ => ?_
  exact p2 F2 H2 _ c2.self ⟨v, vs, rfl, RelD.mono g2.sub g2.ext _ _ r1, r2⟩
theorem e3ab_nil : PA X [] (T3ab M anil) := PAi pa_nil fun σ H Q h => by
  obtain ⟨B, F, env, w, c, p⟩ := h
  exact p F H [] c.self rfl
theorem e3ab_cons (ha : PE X e (T3b M f)) (hr : PA X es (T3ab M fs)) (hs : starEach (e :: es) X.env = (false, eval e X.env) :: starEach es X.env := by rfl) : PA X (e :: es) (T3ab M (acons f fs)) := by
  refine PAi (pa_cons ha hr hs) fun σ H Q h => ?_
  obtain ⟨B, F, env, w, c, p⟩ := h
  refine T3b.mono (T3b.bind' (P := fun r F H => PostAB M F H env σ r Q) c p (fun _ _ h => h) fun _ _ _ _ _ _ g p => p.grow g) fun v H1 ⟨F1, w1, d, g1, c1, r1, p1⟩ => ?_
  refine T3ab.mono (T3ab.bind' (P := fun r F H => PostAB M F H env σ r Q) c1 p1 (fun _ _ h => h) fun _ _ _ _ _ _ g p => p.grow g) fun vs H2 ⟨F2, w2, ds, g2, c2, r2, p2⟩ => ?_
  exact p2 F2 H2 _ c2.self ⟨v, vs, rfl, r1.grow g2, r2⟩
theorem e3_tup {k : _} (h : PA X es (T3a M fs)) : PE X (.Tuple es k pos) (T3 M (mtup fs)) := by
  refine PEi (pe_tup h) fun σ H Q h => ?_
  obtain ⟨B, F, env, w, c, p⟩ := h
  refine T3a.mono (T3a.bind' (P := fun r F H => Post M F H r Q) c p (fun _ _ h => h) fun _ _ _ _ _ _ g p => p.grow g) fun vs H1 ⟨F1, w1, ds, g1, c1, r1, p1⟩ => ?_
  split at p1
  · rename_i hl
    exact ⟨by rw [SL_eq, ← r1.length]; exact hl, fun q hq => Post.tup c1 r1 p1 hq⟩
  · exact p1.elim
theorem e3_lst (h : PA X es (T3a M fs)) : PE X (.List es pos) (T3 M (mlst fs)) := by
  refine PEi (pe_lst h) fun σ H Q h => ?_
  obtain ⟨B, F, env, w, c, p⟩ := h
  refine T3a.mono (T3a.bind' (P := fun r F H => Post M F H r Q) c p (fun _ _ h => h) fun _ _ _ _ _ _ g p => p.grow g) fun vs H1 ⟨F1, w1, ds, g1, c1, r1, p1⟩ => ?_
  split at p1
  · rename_i hl
    exact ⟨by rw [SL_eq, ← r1.length]; exact hl, fun q hq => Post.lst c1 r1 p1 hq⟩
  · exact p1.elim
end

/-! ### calls of built-ins, by values -/
def mC (g : List D → Option D) (fs : M3 (List D)) : M3 D := fs.bind fun ds => .opt (g ds)
def LiftC (M : Ms) (r : List V → Hp → VK → Prop) (g : List D → Option D) : Prop := ∀ (B : Bs) (F : FS) (env : Env3) (w : Wd) (σ : Sl) (H : Hp) (ds : List D) (d : D) (vs : List V) (Q : VK),
  Cor M B F env w σ H → RelBs M F H env σ ds vs → g ds = some d → Post M F H (.ok d w) Q → r vs H Q
section
variable {X : Cx} {M : Ms} {x : Str} {p pos : Pos} {e : Expr} {es : List Expr} {fs : M3 (List D)} {id T : String} {r : List V → Hp → VK → Prop} {g : List D → Option D}
theorem t3_cb (l : LiftC M r g) : ∀ σ H Q, T3 M (mC g fs) σ H Q → tCB r (T3ab M fs) σ H Q := by
  intro σ H Q h
  obtain ⟨B, F, env, w, c, p⟩ := h
  refine T3ab.mono (T3ab.bind' (P := fun r F H => Post M F H r Q) c p (fun _ _ h => h) fun _ _ _ _ _ _ g p => p.grow g) fun vs H1 ⟨F1, w1, ds, g1, c1, r1, p1⟩ => ?_
  unfold M3.opt at p1
  cases eg : g ds with
  | none => rw [eg] at p1; exact p1.elim
  | some d =>
    rw [eg] at p1
    exact l B F1 env w1 σ H1 ds d vs Q c1 r1 eg p1
theorem e3_callB (hc : CallR X (.builtin id) r) (l : LiftC M r g) (hg : Gl X x) (hm : X.mg x = none) (hv : bootBuiltins x = some (.builtin id)) (ha : PA X (e :: es) (T3ab M fs)) (hn : x ≠ "__name__" := by decide) (hdb : (x == ("__debug__" : Str)) = false := by decide)
    (he : starEach (e :: es) X.env = (false, eval e X.env) :: starEach es X.env := by rfl) (hpl : (backTo pos (starEach es X.env)).any (·.1) = false := by rfl) : PE X (.Call (.Name x p) (e :: es) [] pos) (T3 M (mC g fs)) :=
  PEi (pe_callB hc hg hm hv ha hn hdb he hpl) (t3_cb l)
theorem e3_callTy (hc : CallR X (.type T) r) (l : LiftC M r g) (hg : Gl X x) (hm : X.mg x = none) (hv : bootBuiltins x = some (.type T)) (ha : PA X (e :: es) (T3ab M fs)) (hn : x ≠ "__name__" := by decide) (hdb : (x == ("__debug__" : Str)) = false := by decide)
    (he : starEach (e :: es) X.env = (false, eval e X.env) :: starEach es X.env := by rfl) (hpl : (backTo pos (starEach es X.env)).any (·.1) = false := by rfl) : PE X (.Call (.Name x p) (e :: es) [] pos) (T3 M (mC g fs)) :=
  PEi (pe_callTy hc hg hm hv ha hn hdb he hpl) (t3_cb l)
end
section
variable {M : Ms} {F : FS} {env : Env3} {σ : Sl} {H : Hp}
theorem RelBs.one {d : D} {vs : List V} (r : RelBs M F H env σ [d] vs) : ∃ v, vs = [v] ∧ RelB M F H env σ d v := by
  obtain ⟨v, us, rfl, r, z⟩ := r
  have z : us = [] := z
  subst z
  exact ⟨v, rfl, r⟩
theorem RelBs.two {d e : D} {vs : List V} (r : RelBs M F H env σ [d, e] vs) : ∃ v u, vs = [v, u] ∧ RelB M F H env σ d v ∧ RelB M F H env σ e u := by
  obtain ⟨v, us, rfl, r, z⟩ := r
  obtain ⟨u, rfl, r2⟩ := z.one
  exact ⟨v, u, rfl, r, r2⟩
end
def dLen : List D → Option D
  | [.str s] => if s.length ≤ SL then some (.int s.length) else none
  | [.lst ds] => some (.int ds.length)
  | [.tup ds] => some (.int ds.length)
  | _ => none
theorem lift_len {M : Ms} {K : PySem.W.Frag} (hK : M.K = K) : LiftC M (fun xs H Q => ∃ x n, xs = [x] ∧ LenV K x H n ∧ Q (.int n) H) dLen := by
  subst hK
  intro B F env w σ H ds d vs Q c r e p
  unfold dLen at e
  split at e
  · split at e
    · rename_i h
      cases e
      obtain ⟨v, rfl, r0⟩ := r.one
      exact ⟨_, _, rfl, by rw [c.str r0]; exact ⟨by rw [SL_eq]; exact h, rfl⟩, Post.val c p rfl⟩
    · cases e
  · cases e
    obtain ⟨v, rfl, r0⟩ := r.one
    obtain ⟨a, xs, rfl, h1, r2⟩ := c.lst r0
    refine ⟨_, xs.length, rfl, .inl ⟨xs, .of h1, rfl⟩, ?_⟩
    rw [r2.length] at p
    exact Post.val c p rfl
  · cases e
    obtain ⟨v, rfl, r0⟩ := r.one
    obtain ⟨a, xs, rfl, h1, r2⟩ := c.tup r0
    refine ⟨_, xs.length, rfl, .inr ⟨xs, h1.sq, rfl⟩, ?_⟩
    rw [r2.length] at p
    exact Post.val c p rfl
  · cases e
def dInt : List D → Option D
  | [.int i] => some (.int i)
  | [.bl k] => some (.int (if k then 1 else 0))
  | _ => none
theorem lift_int1 {M : Ms} : LiftC M (fun xs H Q => (∃ i, xs = [.int i] ∧ Q (.int i) H) ∨ ∃ k, xs = [.bl k] ∧ Q (.int (if k then 1 else 0)) H) dInt := by
  intro B F env w σ H ds d vs Q c r e p
  unfold dInt at e
  split at e
  · cases e
    obtain ⟨v, rfl, r0⟩ := r.one
    exact .inl ⟨_, by rw [c.int r0], Post.val c p rfl⟩
  · cases e
    obtain ⟨v, rfl, r0⟩ := r.one
    exact .inr ⟨_, by rw [c.bl r0], Post.val c p rfl⟩
  · cases e
def dTuple : List D → Option D
  | [.lst ds] => some (.tup ds)
  | [.tup ds] => some (.tup ds)
  | _ => none
theorem lift_tuple {M : Ms} {K : PySem.W.Frag} (hK : M.K = K) : LiftC M (fun xs H Q => ∃ p ys, xs = [.ref p] ∧ ((SqL K H p ys ∧ ∀ l, H l = none → Q (.ref l) (upd H l (.tup ys))) ∨ (SqT K H p ys ∧ Q (.ref p) H))) dTuple := by
  subst hK
  intro B F env w σ H ds d vs Q c r e p
  unfold dTuple at e
  split at e
  · cases e
    obtain ⟨v, rfl, r0⟩ := r.one
    obtain ⟨a, xs, rfl, h1, r2⟩ := c.lst r0
    exact ⟨a, xs, rfl, .inl ⟨.of h1, fun l hl => Post.tup c r2 p hl⟩⟩
  · cases e
    obtain ⟨v, rfl, r0⟩ := r.one
    obtain ⟨a, xs, rfl, h1, r2⟩ := c.tup r0
    exact ⟨a, xs, rfl, .inr ⟨h1.sq, Post.val c p ⟨a, xs, rfl, h1, r2⟩⟩⟩
  · cases e
def dList : List D → Option D
  | [.lst ds] => some (.lst ds)
  | [.tup ds] => some (.lst ds)
  | _ => none
theorem lift_list {M : Ms} {K : PySem.W.Frag} (hK : M.K = K) : LiftC M (fun xs H Q => ∃ p ys, xs = [.ref p] ∧ (SqL K H p ys ∨ SqT K H p ys) ∧ ∀ l, H l = none → Q (.ref l) (upd H l (.lst ys))) dList := by
  subst hK
  intro B F env w σ H ds d vs Q c r e p
  unfold dList at e
  split at e
  · cases e
    obtain ⟨v, rfl, r0⟩ := r.one
    obtain ⟨a, xs, rfl, h1, r2⟩ := c.lst r0
    exact ⟨a, xs, rfl, .inl (.of h1), fun l hl => Post.lst c r2 p hl⟩
  · cases e
    obtain ⟨v, rfl, r0⟩ := r.one
    obtain ⟨a, xs, rfl, h1, r2⟩ := c.tup r0
    exact ⟨a, xs, rfl, .inr h1.sq, fun l hl => Post.lst c r2 p hl⟩
  · cases e
end L3

set_option Elab.async false
set_option linter.all false
set_option maxRecDepth 100000
set_option maxHeartbeats 4000000
/-! L3Expr2: subscripts, slices, methods of built-in types. -/
namespace L3
open PySem PySem.Spec PyProof.Rows L2

def dIx : D → D → Option D
  | .lst ds, .int i => atI ds i
  | .tup ds, .int i => atI ds i
  | .str z, .int i => if z.length ≤ SL then (atI z.cps.toList i).map fun c => .str ⟨#[c]⟩ else none
  | _, _ => none
section
variable {X : Cx} {M : Ms} {F : FS} {H : Hp}
theorem RelDs.atI {ds : List D} {xs : List V} {i : Int} {d : D} (r : RelDs M F H ds xs) (e : L2.atI ds i = some d) : ∃ v, L2.atI xs i = some v ∧ RelD M F H d v := by
  unfold L2.atI at e ⊢
  rw [r.length] at e
  cases h : ixN xs.length i with
  | none => rw [h] at e; cases e
  | some j =>
    rw [h] at e
    exact r.get e
theorem lift_ix {K : PySem.W.Frag} (hK : M.K = K) : Lift2 M (rIx K) dIx := by
  subst hK
  intro B F env w σ H dx dy d x y Q c rx ry e p
  unfold dIx at e
  split at e
  · obtain ⟨a, xs, rfl, h1, r1⟩ := c.lst rx
    obtain ⟨v, e1, r2⟩ := r1.atI e
    exact .inl ⟨a, xs, _, v, rfl, c.int ry, .of h1, e1, Post.val c p r2⟩
  · obtain ⟨a, xs, rfl, h1, r1⟩ := c.tup rx
    obtain ⟨v, e1, r2⟩ := r1.atI e
    exact .inr (.inl ⟨a, xs, _, v, rfl, c.int ry, h1.sq, e1, Post.val c p r2⟩)
  · split at e
    · rename_i hz
      rename_i z i
      cases h : L2.atI z.cps.toList i with
      | none => rw [h] at e; cases e
      | some k =>
        rw [h] at e
        cases e
        exact .inr (.inr ⟨_, _, k, c.str rx, c.int ry, by rw [SL_eq]; exact hz, h, Post.val c p rfl⟩)
    · cases e
  · cases e
variable {a b : Expr} {fa fb : M3 D} {pos : Pos}
theorem e3_ix {r : R2} {g : D → D → Option D} (hr : IxR X r) (l : Lift2 M r g) (ha : PE X a (T3b M fa)) (hb : PE X b (T3b M fb)) (hs : PlainIx b := by intro _ _; rfl) : PE X (.Subscript a b pos) (T3 M (m2 g fa fb)) :=
  PEi (pe_ix hr ha hb hs) (t3_op l)
end

/-! ### slices -/
def onone : M3 (Option Int) := M3.ret none
def osome (f : M3 D) : M3 (Option Int) := f.bind fun d => match d with
  | .int i => M3.ret (some i)
  | _ => fun _ _ => .bad
def PostO (M : Ms) (F : FS) (H : Hp) (r : R3 (Option Int)) (Q : Option Int → Hp → Prop) : Prop := match r with
  | .ok b w' => ∀ F' H', Grow M F H F' w' H' → Q b H'
  | .bad => False
def T3o (M : Ms) (f : M3 (Option Int)) : TO := fun σ H Q => ∃ B F env w, Cor M B F env w σ H ∧ PostO M F H (f env w) Q
section
variable {M : Ms} {B : Bs} {F : FS} {env : Env3} {w : Wd} {σ : Sl} {H : Hp} {Q : VK} {f : M3 D} {k : D → M3 D}
theorem POi {X : Cx} {e : Option Expr} {t t' : TO} (h : PO X e t) (i : ∀ σ H Q, t' σ H Q → t σ H Q) : PO X e t' := ⟨fun pins s σ H Q I q => h.run pins s σ H Q I (i σ H Q q)⟩
theorem PostO.grow {r : R3 (Option Int)} {Q : Option Int → Hp → Prop} {F' : FS} {H' : Hp} {w' : Wd} (g : Grow M F H F' w' H') (p : PostO M F H r Q) : PostO M F' H' r Q := by
  cases r with
  | bad => exact p
  | ok d w2 => exact fun F2 H2 g2 => p F2 H2 (g.trans g2)
theorem T3o.mono {f : M3 (Option Int)} {P P' : Option Int → Hp → Prop} (h : T3o M f σ H P) (i : ∀ v H, P v H → P' v H) : T3o M f σ H P' := by
  obtain ⟨B, F, env, w, c, p⟩ := h
  refine ⟨B, F, env, w, c, ?_⟩
  cases e : f env w with
  | bad => rw [e] at p; exact p.elim
  | ok d w' => rw [e] at p; exact fun F' H' g => i _ _ (p F' H' g)
theorem T3o.bind {f : M3 (Option Int)} {k : Option Int → M3 D} (c : Cor M B F env w σ H) (p : Post M F H ((f.bind k) env w) Q) :
    T3o M f σ H fun b H1 => ∃ F1 w1, Grow M F H F1 w1 H1 ∧ Cor M B F1 env w1 σ H1 ∧ Post M F1 H1 (k b env w1) Q := by
  refine ⟨B, F, env, w, c, ?_⟩
  unfold M3.bind at p
  cases e : f env w with
  | bad => rw [e] at p; exact p.elim
  | ok d w' =>
    rw [e] at p
    exact fun F' H' g => ⟨F', w', g, c.grow g, p.grow g⟩
theorem e3o_none {X : Cx} : PO X none (T3o M onone) := POi po_none fun σ H Q h => by
  obtain ⟨B, F, env, w, c, p⟩ := h
  exact p F H c.self
theorem e3o_some {X : Cx} {e : Expr} (h : PE X e (T3 M f)) : PO X (some e) (T3o M (osome f)) := POi (po_some h) fun σ H Q h => by
  obtain ⟨B, F, env, w, c, p⟩ := h
  refine T3.mono (T3.bind' (P := fun r F H => PostO M F H r Q) c p (fun _ _ h => h) fun _ _ _ _ _ _ g p => p.grow g) fun v H1 ⟨F1, w1, d, g1, c1, r1, p1⟩ => ?_
  cases d with
  | int i => exact ⟨i, r1, p1 F1 H1 c1.self⟩
  | _ => exact p1.elim
end
def cutD (ds : List D) (lo hi : Option Int) : List D := (ds.drop (HT.sIx ds.length 0 lo)).take (HT.sIx ds.length ds.length hi - HT.sIx ds.length 0 lo)
@[irreducible] def dSl : D → Option Int → Option Int → Option D
  | .lst ds, lo, hi => some (.lst (cutD ds lo hi))
  | .tup ds, lo, hi => if HT.sIx ds.length 0 lo = 0 ∧ HT.sIx ds.length ds.length hi = ds.length then none else some (.tup (cutD ds lo hi))
  | .str z, lo, hi => if z.length ≤ SL then some (.str (cutS z lo hi)) else none
  | _, _, _ => none
def msl (f : M3 D) (lo hi : M3 (Option Int)) : M3 D := f.bind fun x => lo.bind fun l => hi.bind fun u => .opt (dSl x l u)
section
variable {X : Cx} {M : Ms} {F : FS} {H : Hp}
theorem RelDs.cut {ds : List D} {xs : List V} (r : RelDs M F H ds xs) (lo hi : Option Int) : RelDs M F H (cutD ds lo hi) (cutV xs lo hi) := by
  unfold cutD cutV
  rw [r.length]
  exact (r.drop _).take _
def rSlD (K : PySem.W.Frag) : V → Option Int → Option Int → Hp → VK → Prop := fun x lo hi H Q => rSlL K x lo hi H Q ∨ (fun x lo hi H Q => rSlT K x lo hi H Q ∨ rSlS x lo hi H Q) x lo hi H Q
theorem sl_all : SlR X (rSlD X.K) := SlR.or sl_list (SlR.or sl_tup sl_str)
theorem e3_sl {e : Expr} {lo hi : Option Expr} {pos p2 : Pos} {f : M3 D} {fl fu : M3 (Option Int)} (he : PE X e (T3b M f)) (hl : PO X lo (T3o M fl)) (hu : PO X hi (T3o M fu)) (hK : M.K = X.K := by rfl) :
    PE X (.Subscript e (.Slice lo hi none p2) pos) (T3 M (msl f fl fu)) := by
  refine PEi (pe_slice sl_all he hl hu) fun σ H Q h => ?_
  obtain ⟨B, F, env, w, c, p⟩ := h
  refine T3b.mono (T3b.bind c p) fun v H1 ⟨F1, w1, d, g1, c1, r1, p1⟩ => ?_
  refine T3o.mono (T3o.bind c1 p1) fun l H2 ⟨F2, w2, g2, c2, p2⟩ => ?_
  refine T3o.mono (T3o.bind c2 p2) fun u H3 ⟨F3, w3, g3, c3, p3⟩ => ?_
  have r3 := (r1.grow g2).grow g3
  unfold M3.opt at p3
  cases ed : dSl d l u with
  | none => rw [ed] at p3; exact p3.elim
  | some z =>
    rw [ed] at p3
    rw [← hK]
    unfold dSl at ed
    split at ed
    · cases ed
      obtain ⟨a, xs, rfl, h1, r4⟩ := c3.lst r3
      exact .inl ⟨a, xs, rfl, .of h1, fun q hq => Post.lst c3 (r4.cut _ _) p3 hq⟩
    · split at ed
      · cases ed
      · rename_i hw
        cases ed
        obtain ⟨a, xs, rfl, h1, r4⟩ := c3.tup r3
        rw [r4.length] at hw
        exact .inr (.inl ⟨a, xs, rfl, h1.sq, hw, fun q hq => Post.tup c3 (r4.cut _ _) p3 hq⟩)
    · split at ed
      · rename_i hz
        cases ed
        exact .inr (.inr ⟨_, c3.str r3, by rw [SL_eq]; exact hz, Post.val c3 p3 rfl⟩)
      · cases ed
    · cases ed
end

/-! ### methods that only look -/
def mM (g : D → List D → Option D) (fo : M3 D) (fs : M3 (List D)) : M3 D := fo.bind fun x => fs.bind fun ds => .opt (g x ds)
structure LiftM (M : Ms) (T : String) (r : V → List V → Hp → VK → Prop) (g : D → List D → Option D) : Prop where
  ty : ∀ (B : Bs) (F : FS) (env : Env3) (w : Wd) (σ : Sl) (H : Hp) (x : D) (ds : List D) (d : D) (v : V), Cor M B F env w σ H → RelB M F H env σ x v → g x ds = some d → tyV M.K T v H
  do_ : ∀ (B : Bs) (F : FS) (env : Env3) (w : Wd) (σ : Sl) (H : Hp) (x : D) (ds : List D) (d : D) (v : V) (vs : List V) (Q : VK), Cor M B F env w σ H → RelB M F H env σ x v → RelBs M F H env σ ds vs → g x ds = some d → Post M F H (.ok d w) Q → r v vs H Q
section
variable {X : Cx} {M : Ms} {o e : Expr} {es : List Expr} {fo : M3 D} {fs : M3 (List D)} {name : Str} {apos cpos : Pos} {T id : String} {r : V → List V → Hp → VK → Prop} {g : D → List D → Option D}
theorem e3_bm (pa : PlainAttrs T) (slot : Slot T name id) (hty : typeOf (.builtin id) = pure (.type "method_descriptor")) (hm : MtR X id r) (l : LiftM M T r g) (ho : PE X o (T3b M fo)) (ha : PA X (e :: es) (T3ab M fs)) (hK : M.K = X.K := by rfl)
    (hbase : attributeBase o name X.env (eval o X.env) = eval o X.env := by rfl)
    (hfew : ((backTo cpos (starEach (e :: es) X.env)).all (fun x => !x.1) && (backToKw cpos (keywordEach [] X.env)).all (fun x => x.1.isSome)
      && decide ((e :: es).length + ([] : List Keyword).length + (if ([] : List Keyword).isEmpty then 0 else 1) < 30)) = true := by rfl)
    (hline : (apos.endLine == cpos.line) = true := by rfl) (hs : starEach (e :: es) X.env = (false, eval e X.env) :: starEach es X.env := by rfl) (hplain : (backTo cpos (starEach es X.env)).any (·.1) = false := by rfl) :
    PE X (.Call (.Attribute o name apos) (e :: es) [] cpos) (T3 M (mM g fo fs)) := by
  refine PEi (pe_bm pa slot hty hm ho ha hbase hfew hline hs hplain) fun σ H Q h => ?_
  obtain ⟨B, F, env, w, c, p⟩ := h
  refine T3b.mono (T3b.bind c p) fun v H1 ⟨F1, w1, d, g1, c1, r1, p1⟩ => ?_
  refine ⟨?_, ?_⟩
  · rw [← hK]
    unfold M3.bind at p1
    cases e1 : fs env w1 with
    | bad => rw [e1] at p1; exact p1.elim
    | ok ds w2 =>
      rw [e1] at p1
      unfold M3.opt at p1
      dsimp only at p1
      cases e2 : g d ds with
      | none => rw [e2] at p1; exact p1.elim
      | some z => exact l.ty B F1 env w1 σ H1 d ds z v c1 r1 e2
  · refine T3ab.mono (T3ab.bind' (P := fun r F H => Post M F H r Q) c1 p1 (fun _ _ h => h) fun _ _ _ _ _ _ g p => p.grow g) fun vs H2 ⟨F2, w2, ds, g2, c2, r2, p2⟩ => ?_
    unfold M3.opt at p2
    cases e2 : g d ds with
    | none => rw [e2] at p2; exact p2.elim
    | some z =>
      rw [e2] at p2
      exact l.do_ B F2 env w2 σ H2 d ds z v vs Q c2 (r1.grow g2) r2 e2 p2
end
def strsD : List D → Option (List Str)
  | [] => some []
  | .str s :: ds => (strsD ds).map fun r => s :: r
  | _ => none
theorem strsD_rel {M : Ms} {F : FS} {H : Hp} : ∀ {ds : List D} {ys : List Str} {xs : List V}, strsD ds = some ys → RelDs M F H ds xs → xs = ys.map V.str
  | [], ys, xs, e, r => by
    cases e
    exact r
  | .str s :: ds, ys, xs, e, r => by
    obtain ⟨v, us, rfl, r1, r2⟩ := r
    have e : (strsD ds).map (fun r => s :: r) = some ys := e
    cases h : strsD ds with
    | none => rw [h] at e; cases e
    | some zs =>
      rw [h] at e
      cases e
      rw [strsD_rel h r2]
      have r1 : v = .str s := r1
      rw [r1]
      rfl
theorem strsD_map (ys : List Str) : strsD (ys.map D.str) = some ys := by
  induction ys with
  | nil => rfl
  | cons y ys ih =>
    show (strsD (ys.map D.str)).map (fun r => y :: r) = some (y :: ys)
    rw [ih]; rfl
def intsD : List D → Option (List Int)
  | [] => some []
  | .int s :: ds => (intsD ds).map fun r => s :: r
  | _ => none
theorem intsD_rel {M : Ms} {F : FS} {H : Hp} : ∀ {ds : List D} {ys : List Int} {xs : List V}, intsD ds = some ys → RelDs M F H ds xs → xs = ys.map V.int
  | [], ys, xs, e, r => by
    cases e
    exact r
  | .int s :: ds, ys, xs, e, r => by
    obtain ⟨v, us, rfl, r1, r2⟩ := r
    have e : (intsD ds).map (fun r => s :: r) = some ys := e
    cases h : intsD ds with
    | none => rw [h] at e; cases e
    | some zs =>
      rw [h] at e
      cases e
      rw [intsD_rel h r2]
      have r1 : v = .int s := r1
      rw [r1]
      rfl
theorem intsD_map (ys : List Int) : intsD (ys.map D.int) = some ys := by
  induction ys with
  | nil => rfl
  | cons y ys ih =>
    show (intsD (ys.map D.int)).map (fun r => y :: r) = some (y :: ys)
    rw [ih]; rfl
def blsD : List D → Option (List Bool)
  | [] => some []
  | .bl s :: ds => (blsD ds).map fun r => s :: r
  | _ => none
theorem blsD_rel {M : Ms} {F : FS} {H : Hp} : ∀ {ds : List D} {ys : List Bool} {xs : List V}, blsD ds = some ys → RelDs M F H ds xs → xs = ys.map V.bl
  | [], ys, xs, e, r => by
    cases e
    exact r
  | .bl s :: ds, ys, xs, e, r => by
    obtain ⟨v, us, rfl, r1, r2⟩ := r
    have e : (blsD ds).map (fun r => s :: r) = some ys := e
    cases h : blsD ds with
    | none => rw [h] at e; cases e
    | some zs =>
      rw [h] at e
      cases e
      rw [blsD_rel h r2]
      have r1 : v = .bl s := r1
      rw [r1]
      rfl
theorem blsD_map (ys : List Bool) : blsD (ys.map D.bl) = some ys := by
  induction ys with
  | nil => rfl
  | cons y ys ih =>
    show (blsD (ys.map D.bl)).map (fun r => y :: r) = some (y :: ys)
    rw [ih]; rfl
/-- sep.join(texts) -/
def dJoin : D → List D → Option D
  | .str a, [.lst ds] => (strsD ds).bind fun ys => if (ys.map (·.length)).sum + ys.length * a.length ≤ SL then some (.str (Txt.join a ys)) else none
  | _, _ => none
theorem lift_join {M : Ms} {K : PySem.W.Frag} (hK : M.K = K) : LiftM M "str" (fun x xs H Q => ∃ a p, ∃ ys : List Str, x = .str a ∧ xs = [.ref p] ∧ (SqL K H p (ys.map V.str) ∨ SqT K H p (ys.map V.str)) ∧
    (ys.map (·.length)).sum + ys.length * a.length ≤ 16777216 ∧ Q (.str (Txt.join a ys)) H) dJoin where
  ty := by
    intro B F env w σ H x ds d v c r e
    unfold dJoin at e
    split at e
    · rw [c.str r]; exact rfl
    · cases e
  do_ := by
    subst hK
    intro B F env w σ H x ds d v vs Q c r rs e p
    unfold dJoin at e
    split at e
    · rename_i a ds
      cases h : strsD ds with
      | none => rw [h] at e; cases e
      | some ys =>
        rw [h] at e
        dsimp only [Option.bind] at e
        split at e
        · rename_i hl
          cases e
          obtain ⟨u, rfl, r1⟩ := rs.one
          obtain ⟨b, xs, rfl, h1, r2⟩ := c.lst r1
          rw [strsD_rel h r2] at h1
          exact ⟨a, b, ys, c.str r, rfl, .inl (.of h1), hl, Post.val c p rfl⟩
        · cases e
    · cases e
/-- min, all of lists -/
def dMin : List D → Option D
  | [.lst ds] => (intsD ds).bind fun ns => match ns with
    | [] => none
    | n :: r => some (.int (r.foldl min n))
  | _ => none
theorem foldl_min (r : List Int) : ∀ n : Int, r.foldl min n ∈ n :: r ∧ ∀ y ∈ n :: r, r.foldl min n ≤ y := by
  induction r with
  | nil => intro n; simp
  | cons a r ih =>
    intro n
    obtain ⟨h1, h2⟩ := ih (min n a)
    rw [List.foldl_cons]
    refine ⟨?_, fun y hy => ?_⟩
    · rcases List.mem_cons.mp h1 with e | e
      · rw [e]
        by_cases hh : n ≤ a
        · rw [Int.min_eq_left hh]; simp
        · rw [Int.min_eq_right (by omega)]; simp
      · simp [e]
    · have h3 := h2 (min n a) List.mem_cons_self
      rcases List.mem_cons.mp hy with e | e
      · subst e; have := Int.min_le_left y a; omega
      · rcases List.mem_cons.mp e with e | e
        · subst e; have := Int.min_le_right n y; omega
        · exact h2 y (List.mem_cons_of_mem _ e)
theorem lift_min {M : Ms} {K : PySem.W.Frag} (hK : M.K = K) : LiftC M (rMin K) dMin := by
  subst hK
  intro B F env w σ H ds d vs Q c r e p
  unfold dMin at e
  split at e
  · rename_i ds
    cases h : intsD ds with
    | none => rw [h] at e; cases e
    | some ns =>
      rw [h] at e
      dsimp only [Option.bind] at e
      split at e
      · cases e
      · rename_i n rest
        cases e
        obtain ⟨v, rfl, r0⟩ := r.one
        obtain ⟨a, xs, rfl, h1, r2⟩ := c.lst r0
        rw [intsD_rel h r2] at h1
        refine ⟨a, n :: rest, rfl, .of h1, by simp, fun m hm hle => ?_⟩
        obtain ⟨q1, q2⟩ := foldl_min rest n
        have e1 := hle _ q1
        have e2 := q2 m hm
        have e3 : m = rest.foldl min n := by omega
        rw [e3]
        exact Post.val c p rfl
  · cases e
def dAll : List D → Option D
  | [.lst ds] => (blsD ds).map fun bs => .bl (bs.all id)
  | _ => none
theorem lift_all {M : Ms} {K : PySem.W.Frag} (hK : M.K = K) : LiftC M (rAll K) dAll := by
  subst hK
  intro B F env w σ H ds d vs Q c r e p
  unfold dAll at e
  split at e
  · rename_i ds
    cases h : blsD ds with
    | none => rw [h] at e; cases e
    | some ns =>
      rw [h] at e
      cases e
      obtain ⟨v, rfl, r0⟩ := r.one
      obtain ⟨a, xs, rfl, h1, r2⟩ := c.lst r0
      rw [blsD_rel h r2] at h1
      exact ⟨a, ns, rfl, .of h1, Post.val c p rfl⟩
  · cases e
def dAny : List D → Option D
  | [.lst ds] => (blsD ds).map fun bs => .bl (bs.any id)
  | _ => none
theorem lift_any {M : Ms} {K : PySem.W.Frag} (hK : M.K = K) : LiftC M (rAny K) dAny := by
  subst hK
  intro B F env w σ H ds d vs Q c r e p
  unfold dAny at e
  split at e
  · rename_i ds
    cases h : blsD ds with
    | none => rw [h] at e; cases e
    | some ns =>
      rw [h] at e
      cases e
      obtain ⟨v, rfl, r0⟩ := r.one
      obtain ⟨a, xs, rfl, h1, r2⟩ := c.lst r0
      rw [blsD_rel h r2] at h1
      exact ⟨a, ns, rfl, .of h1, Post.val c p rfl⟩
  · cases e
/-- sign in text -/
def dInS : D → D → Option D
  | .str i, .str j => some (.bl (!(Builtin.Str.occurrences j i 0 j.length 1).isEmpty))
  | _, _ => none
theorem lift_inS {M : Ms} : Lift2 M (fun x y H Q => ∃ i j, x = .str i ∧ y = .str j ∧ Q (.bl (!(Builtin.Str.occurrences j i 0 j.length 1).isEmpty)) H) dInS := by
  intro B F env w σ H dx dy d x y Q c rx ry e p
  unfold dInS at e
  split at e
  · cases e
    exact ⟨_, _, c.str rx, c.str ry, Post.val c p rfl⟩
  · cases e
end L3

set_option Elab.async false
set_option linter.all false
set_option maxRecDepth 100000
set_option maxHeartbeats 4000000
/-! L3Stmt: statements, targets, loops as plain functions. -/
namespace L3
open PySem PySem.Spec PyProof.Rows L2

inductive S3 where
  | nx (env : Env3) (w : Wd) | ct (env : Env3) (w : Wd) | bk (env : Env3) (w : Wd) | ret (d : D) (w : Wd) | bad
abbrev St3 := Env3 → Wd → S3
structure Mono (F : FS) (H : Hp) (F' : FS) (H' : Hp) : Prop where
  sub : Sub F F'
  ext : Ext F H H'
theorem Mono.refl {F : FS} {H : Hp} : Mono F H F H := ⟨fun _ h => h, fun _ _ _ h => h⟩
theorem Mono.trans {F F1 F2 : FS} {H H1 H2 : Hp} (a : Mono F H F1 H1) (b : Mono F1 H1 F2 H2) : Mono F H F2 H2 := ⟨fun c f => b.sub c (a.sub c f), fun c o f e => b.ext c o (f.imp (a.sub c) id) (a.ext c o f e)⟩
theorem Grow.mono {M : Ms} {F F' : FS} {H H' : Hp} {w' : Wd} (g : Grow M F H F' w' H') : Mono F H F' H' := ⟨g.sub, g.ext⟩
def PostS (M : Ms) (B : Bs) (F : FS) (H : Hp) (D0 : Ends) : S3 → Prop
  | .nx env w => ∀ F' σ' H', Cor M B F' env w σ' H' → Mono F H F' H' → D0.nx σ' H'
  | .ct env w => ∀ F' σ' H', Cor M B F' env w σ' H' → Mono F H F' H' → D0.ct σ' H'
  | .bk env w => ∀ F' σ' H', Cor M B F' env w σ' H' → Mono F H F' H' → D0.bk σ' H'
  | .ret d w => ∀ F' H' v, Gd M B F' w H' → Mono F H F' H' → RelD M F' H' d v → D0.rt v H'
  | .bad => False
theorem PostS.grow {M : Ms} {B : Bs} {F F1 : FS} {H H1 : Hp} {D0 : Ends} {r : S3} (m : Mono F H F1 H1) (p : PostS M B F H D0 r) : PostS M B F1 H1 D0 r := by
  cases r with
  | nx env w => exact fun F' σ' H' c m' => p F' σ' H' c (m.trans m')
  | ct env w => exact fun F' σ' H' c m' => p F' σ' H' c (m.trans m')
  | bk env w => exact fun F' σ' H' c m' => p F' σ' H' c (m.trans m')
  | ret d w => exact fun F' H' v g m' r => p F' H' v g (m.trans m') r
  | bad => exact p
def TS3 (M : Ms) (g : St3) : TS := fun D0 σ H => ∃ B F env w, Cor M B F env w σ H ∧ PostS M B F H D0 (g env w)

def snil : St3 := fun env w => .nx env w
def sseq (f g : St3) : St3 := fun env w => match f env w with
  | .nx e w' => g e w'
  | r => r
section
variable {X : Cx} {M : Ms} {B : Bs} {F : FS} {env : Env3} {w : Wd} {σ : Sl} {H : Hp} {D0 : Ends} {st : Stmt} {rest a b : List Stmt} {f g : St3} {e c : Expr} {pos : Pos} {fe : M3 D} {gc : M3 Bool}
theorem s3_nil : PSs X [] (TS3 M snil) := PSsi pss_nil fun D0 σ H h => by
  obtain ⟨B, F, env, w, c, p⟩ := h
  exact p F σ H c .refl
theorem s3_cons (h1 : PS X st (TS3 M f)) (h2 : PSs X rest (TS3 M g)) : PSs X (st :: rest) (TS3 M (sseq f g)) := by
  refine PSsi (pss_cons h1 h2) fun D0 σ H h => ?_
  obtain ⟨B, F, env, w, c, p⟩ := h
  refine ⟨B, F, env, w, c, ?_⟩
  unfold sseq at p
  cases ef : f env w with
  | nx e1 w1 =>
    rw [ef] at p
    exact fun F' σ' H' c' m' => ⟨B, F', e1, w1, c', p.grow m'⟩
  | ct e1 w1 => rw [ef] at p; exact p
  | bk e1 w1 => rw [ef] at p; exact p
  | ret d w1 => rw [ef] at p; exact p
  | bad => rw [ef] at p; exact p
theorem s3_one (h1 : PS X st (TS3 M f)) : PSs X [st] (TS3 M f) := pss_one h1
def sret (fe : M3 D) : St3 := fun env w => match fe env w with
  | .ok d w' => .ret d w'
  | .bad => .bad
theorem s3_ret (he : PE X e (T3 M fe)) : PS X (.Return (some e) pos) (TS3 M (sret fe)) := by
  refine PSi (ps_ret he) fun D0 σ H h => ?_
  obtain ⟨B, F, env, w, c, p⟩ := h
  refine ⟨B, F, env, w, c, ?_⟩
  unfold sret at p
  cases ef : fe env w with
  | bad => rw [ef] at p; exact p
  | ok d w' =>
    rw [ef] at p
    exact fun F' H' v g r => p F' H' v (c.gd.grow g) g.mono r
theorem s3_retN : PS X (.Return none pos) (TS3 M (sret (cst .non))) := by
  refine PSi ps_retN fun D0 σ H h => ?_
  obtain ⟨B, F, env, w, c, p⟩ := h
  exact p F H .non c.gd .refl rfl
def sdrop (fe : M3 D) : St3 := fun env w => match fe env w with
  | .ok _ w' => .nx env w'
  | .bad => .bad
theorem s3_expr (he : PE X e (T3 M fe)) (hs : swapsWith e none pos.line X.env = pure false := by rfl) : PS X (.Expr e pos) (TS3 M (sdrop fe)) := by
  refine PSi (ps_expr he hs) fun D0 σ H h => ?_
  obtain ⟨B, F, env, w, c, p⟩ := h
  refine ⟨B, F, env, w, c, ?_⟩
  unfold sdrop at p
  cases ef : fe env w with
  | bad => rw [ef] at p; exact p
  | ok d w' =>
    rw [ef] at p
    exact fun F' H' v g r => p F' σ H' (c.grow g) g.mono
def sif (gc : M3 Bool) (f g : St3) : St3 := fun env w => match gc env w with
  | .ok true w' => f env w'
  | .ok false w' => g env w'
  | .bad => .bad
theorem s3_if (hc : PT X c (T3t M gc)) (ha : PSs X a (TS3 M f)) (hb : PSs X b (TS3 M g)) : PS X (.If c a b pos) (TS3 M (sif gc f g)) := by
  refine PSi (ps_if hc ha hb) fun D0 σ H h => ?_
  obtain ⟨B, F, env, w, c, p⟩ := h
  refine ⟨B, F, env, w, c, ?_⟩
  unfold sif at p
  cases ef : gc env w with
  | bad => rw [ef] at p; exact p
  | ok k w' =>
    rw [ef] at p
    intro F' H' gr
    cases k with
    | true =>
      rw [if_pos rfl]
      exact ⟨B, F', env, w', c.grow gr, PostS.grow gr.mono p⟩
    | false =>
      rw [if_neg Bool.false_ne_true]
      exact ⟨B, F', env, w', c.grow gr, PostS.grow gr.mono p⟩
theorem s3_pass : PS X (.Pass pos) (TS3 M snil) := PSi ps_pass fun D0 σ H h => by
  obtain ⟨B, F, env, w, c, p⟩ := h
  exact p F σ H c .refl
theorem s3_break : PS X (.Break pos) (TS3 M fun env w => .bk env w) := PSi ps_break fun D0 σ H h => by
  obtain ⟨B, F, env, w, c, p⟩ := h
  exact p F σ H c .refl
theorem s3_continue : PS X (.Continue pos) (TS3 M fun env w => .ct env w) := PSi ps_continue fun D0 σ H h => by
  obtain ⟨B, F, env, w, c, p⟩ := h
  exact p F σ H c .refl
end

/-! ### targets -/
abbrev G3 := D → Env3 → Option Env3
abbrev G3s := List D → Env3 → Option Env3
/-- outside vs nothing was stored -/
structure Outs (vs : List Nat) (σ σ' : Sl) : Prop where
  len : σ'.length = σ.length
  out : ∀ j : Nat, j ∉ vs → σ'[j]? = σ[j]?
theorem Outs.refl {vs : List Nat} {σ : Sl} : Outs vs σ σ := ⟨rfl, fun _ _ => rfl⟩
theorem Outs.trans {vs us : List Nat} {σ σ1 σ2 : Sl} (a : Outs vs σ σ1) (b : Outs us σ1 σ2) : Outs (vs ++ us) σ σ2 := ⟨b.len.trans a.len, fun j h => by
  simp only [List.mem_append, not_or] at h
  exact (b.out j h.2).trans (a.out j h.1)⟩
theorem Outs.set {σ : Sl} {i : Nat} {v : Option V} : Outs [i] σ (σ.set i v) := ⟨by simp, fun j h => by
  simp only [List.mem_singleton] at h
  rw [List.getElem?_set_ne (fun z => h z.symm)]⟩
def T3g (M : Ms) (g : G3) (vs : List Nat) : TG := fun v σ H Q => ∃ B F env w d, Cor M B F env w σ H ∧ RelD M F H d v ∧ match g d env with
  | some env' => ∀ σ', Cor M B F env' w σ' H → Outs vs σ σ' → Q σ' H
  | none => False
def T3gs (M : Ms) (g : G3s) (vs : List Nat) : TGs := fun us σ H Q => ∃ B F env w ds, Cor M B F env w σ H ∧ RelDs M F H ds us ∧ match g ds env with
  | some env' => ∀ σ', Cor M B F env' w σ' H → Outs vs σ σ' → Q σ' H
  | none => False
theorem PGi {X : Cx} {e : Expr} {t t' : TG} (h : PG X e t) (i : ∀ v σ H Q, t' v σ H Q → t v σ H Q) : PG X e t' := ⟨fun pins s σ H v u Q I r q => h.run pins s σ H v u Q I r (i _ _ _ _ q)⟩
theorem PGsi {X : Cx} {e : List Expr} {t t' : TGs} (h : PGs X e t) (i : ∀ v σ H Q, t' v σ H Q → t v σ H Q) : PGs X e t' := ⟨fun pins s σ H v u Q I r q => h.run pins s σ H v u Q I r (i _ _ _ _ q)⟩
def gn (i : Nat) : G3 := fun d env => if i < env.length then some (env.set i (some (false, d))) else none
theorem Cor.setF {M : Ms} {B : Bs} {F : FS} {env : Env3} {w : Wd} {σ : Sl} {H : Hp} {d : D} {v : V} (c : Cor M B F env w σ H) (r : RelD M F H d v) (i : Nat) : Cor M B F (env.set i (some (false, d))) w (σ.set i (some v)) H where
  gd := c.gd
  len := by simp [c.len]
  fro := fun j e h => by
    by_cases ij : i = j
    · subst ij
      have hi : i < env.length := by
        have := (List.getElem?_eq_some_iff.mp h).1
        simpa using this
      rw [List.getElem?_set_self hi] at h
      cases h
      exact ⟨v, List.getElem?_set_self (by rw [c.len]; exact hi), r⟩
    · rw [List.getElem?_set_ne ij] at h
      rw [List.getElem?_set_ne ij]
      exact c.fro j e h
  own := fun j e h => by
    by_cases ij : i = j
    · subst ij
      have hi : i < env.length := by
        have := (List.getElem?_eq_some_iff.mp h).1
        simpa using this
      rw [List.getElem?_set_self hi] at h
      cases h
    · rw [List.getElem?_set_ne ij] at h
      rw [List.getElem?_set_ne ij]
      exact c.own j e h
  sep := fun j k e f u h1 h2 h3 h4 => by
    by_cases ij : i = j
    · subst ij
      have hi : i < env.length := by
        have := (List.getElem?_eq_some_iff.mp h1).1
        simpa using this
      rw [List.getElem?_set_self hi] at h1
      cases h1
    · by_cases ik : i = k
      · subst ik
        have hi : i < env.length := by
          have := (List.getElem?_eq_some_iff.mp h2).1
          simpa using this
        rw [List.getElem?_set_self hi] at h2
        cases h2
      · rw [List.getElem?_set_ne ij] at h1 h3
        rw [List.getElem?_set_ne ik] at h2 h4
        exact c.sep j k e f u h1 h2 h3 h4
section
variable {X : Cx} {M : Ms} {B : Bs} {F : FS} {env : Env3} {w : Wd} {σ : Sl} {H : Hp} {D0 : Ends} {pos : Pos} {e tg : Expr} {es : List Expr} {fe : M3 D} {g : G3} {gs : G3s} {f : St3}
theorem g3_name (i : Nat) {x : Str} (hN : X.N.Nodup) (hi : X.N[i]? = some x := by rfl) (hx : Loc X.env.scope x := by first | exact Or.inl rfl | exact Or.inr rfl) (hf : X.fn x = true ∨ X.env.scope.names.lookup x = some .local := by first | exact .inl rfl | exact .inr rfl | assumption) :
    PG X (.Name x pos) (T3g M (gn i) [i]) := by
  refine PGi (pg_name hN hi hx hf) fun v σ H Q h => ?_
  obtain ⟨B, F, env, w, d, c, r, p⟩ := h
  unfold gn at p
  split at p
  · rename_i env' e
    split at e
    · cases e
      exact p _ (c.setF r i) .set
    · cases e
  · exact p.elim
def gnil : G3s := fun ds env => match ds with
  | [] => some env
  | _ => none
def gcons (g : G3) (gs : G3s) : G3s := fun ds env => match ds with
  | d :: r => (g d env).bind fun e => gs r e
  | [] => none
theorem g3_nil : PGs X [] (T3gs M gnil []) := PGsi pgs_nil fun v σ H Q h => by
  obtain ⟨B, F, env, w, ds, c, r, p⟩ := h
  cases ds with
  | nil => exact ⟨r, p σ c .refl⟩
  | cons d r => exact p.elim
theorem g3_cons {vs us : List Nat} (h1 : PG X e (T3g M g vs)) (h2 : PGs X es (T3gs M gs us)) (hs : (assignEach (e :: es) X.env).map (·.2) = assign e X.env :: (assignEach es X.env).map (·.2) := by rfl) : PGs X (e :: es) (T3gs M (gcons g gs) (vs ++ us)) := by
  refine PGsi (pgs_cons h1 h2 hs) fun v σ H Q h => ?_
  obtain ⟨B, F, env, w, ds, c, r, p⟩ := h
  cases ds with
  | nil => exact p.elim
  | cons d ds =>
    obtain ⟨x, xs, rfl, r1, r2⟩ := r
    unfold gcons at p
    dsimp only at p
    refine ⟨x, xs, rfl, B, F, env, w, d, c, r1, ?_⟩
    cases eg : g d env with
    | none => rw [eg] at p; exact p.elim
    | some e1 =>
      rw [eg] at p
      dsimp only [Option.bind] at p
      intro σ' c' o'
      refine ⟨B, F, e1, w, ds, c', r2, ?_⟩
      cases eg2 : gs ds e1 with
      | none => rw [eg2] at p; exact p.elim
      | some e2 =>
        rw [eg2] at p
        exact fun σ2 c2 o2 => p σ2 c2 (o'.trans o2)
def gtup (n : Nat) (gs : G3s) : G3 := fun d env => match d with
  | .tup ds => if ds.length = n then gs ds env else none
  | _ => none
theorem g3_tup {k n : Nat} {vs : List Nat} (hc : X.calm = true) (h : PGs X es (T3gs M gs vs)) (hK : M.K = X.K := by rfl) (hn : (assignEach es X.env).length = n := by rfl) (hst : (assignEach es X.env).findIdx? (·.1) = none := by rfl) : PG X (.Tuple es k pos) (T3g M (gtup n gs) vs) := by
  refine PGi (pg_tup hc h hn hst) fun v σ H Q h => ?_
  obtain ⟨B, F, env, w, d, c, r, p⟩ := h
  unfold gtup at p
  cases d with
  | tup ds =>
    obtain ⟨a, xs, rfl, q, r⟩ := r
    dsimp only at p
    by_cases hl : ds.length = n
    · rw [if_pos hl] at p
      exact ⟨a, xs, rfl, by rw [← hK]; exact q.sq, by rw [← r.length]; exact hl, B, F, env, w, ds, c, r, p⟩
    · rw [if_neg hl] at p
      exact p.elim
  | _ => exact p.elim
def sasg (fe : M3 D) (g : G3) : St3 := fun env w => match fe env w with
  | .ok d w' => match g d env with
    | some e => .nx e w'
    | none => .bad
  | .bad => .bad
theorem ts_asg {vs : List Nat} : ∀ D0 σ H, TS3 M (sasg fe g) D0 σ H → tAsg (T3 M fe) (T3g M g vs) D0 σ H := fun D0 σ H h => by
  obtain ⟨B, F, env, w, c, p⟩ := h
  refine ⟨B, F, env, w, c, ?_⟩
  unfold sasg at p
  cases ef : fe env w with
  | bad => rw [ef] at p; exact p
  | ok d w' =>
    rw [ef] at p
    dsimp only at p
    intro F' H' v gr r
    refine ⟨B, F', env, w', d, c.grow gr, r, ?_⟩
    cases eg : g d env with
    | none => rw [eg] at p; exact p
    | some e1 =>
      rw [eg] at p
      exact fun σ2 c2 _ => p F' σ2 H' c2 gr.mono
theorem s3_asg {vs : List Nat} (he : PE X e (T3 M fe)) (hg : PG X tg (T3g M g vs)) (hs : swapsWithSole [tg] e pos.line X.env = pure false := by rfl) (hw : swappedStores [tg] e X.env = pure none := by rfl)
    (h1 : (assignEach [tg] X.env).map (·.2) = [assign tg X.env] := by rfl) : PS X (.Assign [tg] e pos) (TS3 M (sasg fe g)) := PSi (ps_asg he hg hs hw h1) ts_asg
/-- x = e -/
theorem s3_set (i : Nat) {x : Str} {pos' : Pos} (hN : X.N.Nodup) (he : PE X e (T3 M fe)) (hi : X.N[i]? = some x := by rfl) (hx : Loc X.env.scope x := by first | exact Or.inl rfl | exact Or.inr rfl) (hs : swapsWith e (some (.Name x pos')) pos.line X.env = pure false := by rfl)
    (hf : X.fn x = true ∨ X.env.scope.names.lookup x = some .local := by first | exact .inl rfl | exact .inr rfl | assumption) : PS X (.Assign [.Name x pos'] e pos) (TS3 M (sasg fe (gn i))) := by
  refine PSi (ps_set hN hi hx he hs hf) fun D0 σ H h => ?_
  refine T3.mono (ts_asg (g := gn i) (vs := [i]) D0 σ H h) fun v H1 h1 => ?_
  obtain ⟨B, F, env, w, d, c, r, p⟩ := h1
  unfold gn at p
  split at p
  · rename_i env' e
    split at e
    · cases e
      exact p _ (c.setF r i) .set
    · cases e
  · exact p.elim
/-- x, y = a, b -/
def spar (i j : Nat) (fs : M3 (List D)) : St3 := fun env w => match fs env w with
  | .ok [a, b] w' => if i < env.length ∧ j < env.length then .nx ((env.set i (some (false, a))).set j (some (false, b))) w' else .bad
  | _ => .bad
theorem s3_par (i j : Nat) {x y : Str} {a b : Expr} {fs : M3 (List D)} {px py pt : Pos} {kt k2 pt2} (hc : X.calm = true) (hN : X.N.Nodup) (ha : PA X [a, b] (T3a M fs)) (hi : X.N[i]? = some x := by rfl) (hj : X.N[j]? = some y := by rfl) (hij : i ≠ j := by decide)
    (hx : X.env.scope.names.lookup x = some .local := by rfl) (hy : X.env.scope.names.lookup y = some .local := by rfl)
    (hw : swappedStores [.Tuple [.Name x px, .Name y py] kt pt] (.Tuple [a, b] k2 pt2) X.env = pure (some [x, y]) := by rfl)
    (hs : swapsWithSole [.Tuple [.Name x px, .Name y py] kt pt] (.Tuple [a, b] k2 pt2) pos.line X.env = pure false := by rfl) :
    PS X (.Assign [.Tuple [.Name x px, .Name y py] kt pt] (.Tuple [a, b] k2 pt2) pos) (TS3 M (spar i j fs)) := by
  refine PSi (ps_par hc hN hi hj hij hx hy ha hw hs) fun D0 σ H h => ?_
  obtain ⟨B, F, env, w, c, p⟩ := h
  refine ⟨B, F, env, w, c, ?_⟩
  unfold spar at p
  cases ef : fs env w with
  | bad => rw [ef] at p; exact p
  | ok ds w' =>
    rw [ef] at p
    intro F' H' vs gr r
    match ds, r, p with
    | [a, b], r, p =>
      obtain ⟨v, us, rfl, r1, u, us2, rfl, r2, z⟩ := r
      have z : us2 = [] := z
      subst z
      refine ⟨v, u, rfl, ?_⟩
      dsimp only at p
      split at p
      · exact p F' _ H' (((c.grow gr).setF r1 i).setF r2 j) gr.mono
      · exact p.elim
    | [], _, p => exact p.elim
    | [_], _, p => exact p.elim
    | _ :: _ :: _ :: _, _, p => exact p.elim
/-- x op= e on a frozen slot: values by g -/
def saug (i : Nat) (g : D → D → Option D) (fe : M3 D) : St3 := sasg (m2 g (evar i) fe) (gn i)
theorem s3_aug (i : Nat) {x : Str} {op : Operator} {r : R2} {gg : D → D → Option D} {pos' : Pos} (hN : X.N.Nodup) (he : PE X e (T3 M fe)) (ho : OpR X (inplaceOp op) r) (l : Lift2 M r gg) (hi : X.N[i]? = some x := by rfl) (hx : Loc X.env.scope x := by first | exact Or.inl rfl | exact Or.inr rfl)
    (hf : X.fn x = true ∨ X.env.scope.names.lookup x = some .local := by first | exact .inl rfl | exact .inr rfl | assumption) : PS X (.AugAssign (.Name x pos') op e pos) (TS3 M (saug i gg fe)) := by
  refine PSi (ps_aug (ti := r) hN hi hx he (fun pins s σ H x y v u Q I r1 r2 h => ho pins s σ H x y v u Q I r1 r2 h) hf) fun D0 σ H h => ?_
  obtain ⟨B, F, env, w, c, p⟩ := h
  unfold saug sasg m2 M3.bind at p
  cases e0 : evar i env w with
  | bad => rw [e0] at p; exact p.elim
  | ok d0 w0 =>
    rw [e0] at p
    unfold evar at e0
    split at e0
    · rename_i d1 hd
      cases e0
      obtain ⟨v, hv, r0⟩ := c.fro i _ hd
      dsimp only at p
      refine ⟨v, hv, B, F, env, w, c, ?_⟩
      cases ef : fe env w with
      | bad => rw [ef] at p; exact p.elim
      | ok d2 w2 =>
        rw [ef] at p
        intro F' H' u gr r2
        unfold M3.opt at p
        dsimp only at p
        cases eg : gg d0 d2 with
        | none => rw [eg] at p; exact p.elim
        | some d3 =>
          rw [eg] at p
          dsimp only at p
          refine l B F' env w2 σ H' d0 d2 d3 v u _ (c.grow gr) (.inl (RelD.mono gr.sub gr.ext _ _ r0)) (.inl r2) eg ?_
          intro F2 H2 z g2 r3
          unfold gn at p
          split at p
          · rename_i env' ee
            split at ee
            · cases ee
              exact p F2 _ H2 (((c.grow gr).grow g2).setF r3 i) (gr.trans g2).mono
            · cases ee
          · exact p.elim
    · cases e0
end

/-! ### while -/
def swhile (c : M3 Bool) (b : St3) : Nat → St3
  | 0 => fun _ _ => .bad
  | n + 1 => fun env w => match c env w with
    | .ok true w' => match b env w' with
      | .nx e w2 => swhile c b n e w2
      | .ct e w2 => swhile c b n e w2
      | .bk e w2 => .nx e w2
      | .ret d w2 => .ret d w2
      | .bad => .bad
    | .ok false w' => .nx env w'
    | .bad => .bad
section
variable {X : Cx} {M : Ms} {c : Expr} {body : List Stmt} {gc : M3 Bool} {f : St3} {pos : Pos}
theorem s3_while (n : Nat) (hp : PassesOwn (model X.prog X.w) X.A X.env X.xe) (hc : PT X c (T3t M gc)) (hb : PSs X body (TS3 M f)) : PS X (.While c body [] pos) (TS3 M (swhile gc f n)) := by
  refine PSi (ps_while hp hc hb) fun D0 σ H h => ?_
  obtain ⟨B, F0, env0, w0, c0, p0⟩ := h
  refine ⟨fun m σ H => ∃ F env w, Cor M B F env w σ H ∧ PostS M B F H D0 (swhile gc f m env w), ⟨n, F0, env0, w0, c0, p0⟩, ?_⟩
  rintro m σ H ⟨F, env, w, c, p⟩
  cases m with
  | zero => exact p.elim
  | succ m =>
    unfold swhile at p
    refine ⟨B, F, env, w, c, ?_⟩
    cases ec : gc env w with
    | bad => rw [ec] at p; exact p
    | ok k w1 =>
      rw [ec] at p
      intro F1 H1 g1
      have c1 := c.grow g1
      cases k with
      | false =>
        rw [if_neg Bool.false_ne_true]
        exact p F1 σ H1 c1 g1.mono
      | true =>
        rw [if_pos rfl]
        dsimp only at p
        refine ⟨fun σ' H' => ∃ F env w, Cor M B F env w σ' H' ∧ PostS M B F H' D0 (swhile gc f m env w), fun σ' H' h => ⟨m, Nat.lt_succ_self m, h⟩, B, F1, env, w1, c1, ?_⟩
        cases ef : f env w1 with
        | nx e2 w2 =>
          rw [ef] at p
          exact fun F' σ' H' c' m' => ⟨F', e2, w2, c', p.grow (g1.mono.trans m')⟩
        | ct e2 w2 =>
          rw [ef] at p
          exact fun F' σ' H' c' m' => ⟨F', e2, w2, c', p.grow (g1.mono.trans m')⟩
        | bk e2 w2 =>
          rw [ef] at p
          exact fun F' σ' H' c' m' => p F' σ' H' c' (g1.mono.trans m')
        | ret d w2 =>
          rw [ef] at p
          exact fun F' H' v g m' r => p F' H' v g (g1.mono.trans m') r
        | bad => rw [ef] at p; exact p
end

/-! ### what a loop walks -/
def ItOk (M : Ms) (F0 : FS) (H0 : Hp) (J : It) (ds : List D) : Prop := ∀ (i : Nat) (F : FS) (H : Hp) (w : Wd), Mono F0 H0 F H → (∀ b, F b → H b ≠ none) → WRel M F w H →
  (ds.length ≤ i → J.stop i H) ∧ ∀ d, ds[i]? = some d → J.go i H ∧ ∀ x H', J.yld i H x H' → ∃ F', Grow M F H F' w H' ∧ RelD M F' H' d x
def T3i (M : Ms) (f : M3 (List D)) : TI := fun σ H R => ∃ B F env w, Cor M B F env w σ H ∧ match f env w with
  | .ok ds w' => ∀ F' H' J, Grow M F H F' w' H' → ItOk M F' H' J ds → R J H'
  | .bad => False
theorem PIi {X : Cx} {tg e : Expr} {t t' : TI} (h : PI X tg e t) (i : ∀ σ H R, t' σ H R → t σ H R) : PI X tg e t' := ⟨fun pins s σ H R I q => h.run pins s σ H R I (i _ _ _ q)⟩
def iseq (f : M3 D) : M3 (List D) := f.bind fun d => match d with
  | .lst ds => M3.ret ds
  | _ => fun _ _ => .bad
def itup (f : M3 D) : M3 (List D) := f.bind fun d => match d with
  | .tup ds => M3.ret ds
  | _ => fun _ _ => .bad
def irng1 (f : M3 (List D)) : M3 (List D) := f.bind fun ds => match ds with
  | [.int j] => if -(2 ^ 62) ≤ j ∧ j < 2 ^ 62 then M3.ret ((List.range j.toNat).map fun i : Nat => .int i) else fun _ _ => .bad
  | _ => fun _ _ => .bad
def irng2 (f : M3 (List D)) : M3 (List D) := f.bind fun ds => match ds with
  | [.int i, .int j] => if -(2 ^ 62) ≤ i ∧ i < 2 ^ 62 ∧ -(2 ^ 62) ≤ j ∧ j < 2 ^ 62 then M3.ret ((List.range (j - i).toNat).map fun k : Nat => .int (i + k)) else fun _ _ => .bad
  | _ => fun _ _ => .bad
section
variable {X : Cx} {M : Ms} {tg e : Expr} {f : M3 D}
theorem t3i_of {M : Ms} {f : M3 D} {k : D → M3 (List D)} {P : V → Hp → Prop} {R : It → Hp → Prop} {σ : Sl} {H : Hp} (h : T3i M (f.bind k) σ H R)
    (i : ∀ B F env w d v H1, Cor M B F env w σ H1 → RelD M F H1 d v → (match k d env w with | .ok ds w' => ∀ F' H' J, Grow M F H1 F' w' H' → ItOk M F' H' J ds → R J H' | .bad => False) → P v H1) : T3 M f σ H P := by
  obtain ⟨B, F, env, w, c, p⟩ := h
  refine ⟨B, F, env, w, c, ?_⟩
  unfold M3.bind at p
  cases ef : f env w with
  | bad => rw [ef] at p; exact p
  | ok d w1 =>
    rw [ef] at p
    intro F1 H1 v g1 r1
    refine i B F1 env w1 d v H1 (c.grow g1) r1 ?_
    dsimp only at p
    cases ek : k d env w1 with
    | bad => rw [ek] at p; exact p
    | ok ds w2 =>
      rw [ek] at p
      exact fun F' H' J g hJ => p F' H' J (g1.trans g) hJ
theorem i3_lst (he : PE X e (T3 M f)) (hK : M.K = X.K := by rfl) : PI X tg e (T3i M (iseq f)) := by
  refine PIi (pi_list he) fun σ H R h => ?_
  refine t3i_of h fun B F env w d v H1 c r p => ?_
  cases d with
  | lst ds =>
    obtain ⟨a, xs, rfl, q, r⟩ := r
    refine ⟨a, rfl, ⟨xs, .of q.2⟩, p F H1 _ c.self fun i F2 H2 w2 m _ _ => ?_⟩
    have h2 := q.mono m.sub m.ext
    have sq : SqL X.K H2 a xs := .of h2.2
    refine ⟨fun hl => ⟨xs, sq, by rw [← r.length]; exact hl⟩, fun d hd => ?_⟩
    obtain ⟨x, hx, rx⟩ := r.get hd
    refine ⟨⟨xs, x, sq, hx⟩, fun y H' ⟨e1, hy⟩ => ?_⟩
    subst e1
    have := hy xs sq
    rw [hx] at this
    cases this
    rename_i hd2 hw2 _
    exact ⟨F2, .refl hd2 hw2, RelD.mono m.sub m.ext _ _ rx⟩
  | _ => exact p.elim
theorem i3_tup (he : PE X e (T3 M f)) (hK : M.K = X.K := by rfl) : PI X tg e (T3i M (itup f)) := by
  refine PIi (pi_tup he) fun σ H R h => ?_
  refine t3i_of h fun B F env w d v H1 c r p => ?_
  cases d with
  | tup ds =>
    obtain ⟨a, xs, rfl, q, r⟩ := r
    refine ⟨a, rfl, ⟨xs, by rw [← hK]; exact q.sq⟩, p F H1 _ c.self fun i F2 H2 w2 m _ _ => ?_⟩
    have h2 := q.mono m.sub m.ext
    have sq : SqT X.K H2 a xs := by rw [← hK]; exact h2.sq
    refine ⟨fun hl => ⟨xs, sq, by rw [← r.length]; exact hl⟩, fun d hd => ?_⟩
    obtain ⟨x, hx, rx⟩ := r.get hd
    refine ⟨⟨xs, x, sq, hx⟩, fun y H' ⟨e1, hy⟩ => ?_⟩
    subst e1
    have := hy xs sq
    rw [hx] at this
    cases this
    rename_i hd2 hw2 _
    exact ⟨F2, .refl hd2 hw2, RelD.mono m.sub m.ext _ _ rx⟩
  | _ => exact p.elim
theorem t3i_ofA {M : Ms} {f : M3 (List D)} {k : List D → M3 (List D)} {P : List V → Hp → Prop} {R : It → Hp → Prop} {σ : Sl} {H : Hp} (h : T3i M (f.bind k) σ H R)
    (i : ∀ B F env w d v H1, Cor M B F env w σ H1 → RelDs M F H1 d v → (match k d env w with | .ok ds w' => ∀ F' H' J, Grow M F H1 F' w' H' → ItOk M F' H' J ds → R J H' | .bad => False) → P v H1) : T3a M f σ H P := by
  obtain ⟨B, F, env, w, c, p⟩ := h
  refine ⟨B, F, env, w, c, ?_⟩
  unfold M3.bind at p
  cases ef : f env w with
  | bad => rw [ef] at p; exact p
  | ok d w1 =>
    rw [ef] at p
    intro F1 H1 v g1 r1
    refine i B F1 env w1 d v H1 (c.grow g1) r1 ?_
    dsimp only at p
    cases ek : k d env w1 with
    | bad => rw [ek] at p; exact p
    | ok ds w2 =>
      rw [ek] at p
      exact fun F' H' J g hJ => p F' H' J (g1.trans g) hJ
theorem itr_ok {F : FS} {H : Hp} {lo : Int} {n : Nat} : ItOk M F H (Itr lo n) ((List.range n).map fun k : Nat => .int (lo + k)) := by
  intro i F2 H2 w2 m hd hw
  refine ⟨fun hl => by show n ≤ i; simpa using hl, fun d e => ?_⟩
  rw [List.getElem?_map] at e
  cases h : (List.range n)[i]? with
  | none => rw [h] at e; cases e
  | some k =>
    rw [h] at e
    cases e
    obtain ⟨h1, h2⟩ := List.getElem?_eq_some_iff.mp h
    have h3 : k = i := by rw [← h2]; simp
    subst h3
    refine ⟨by show k < n; simpa using h1, fun x H' ⟨e1, e2⟩ => ?_⟩
    subst e1
    exact ⟨F2, .refl hd hw, e2⟩
theorem i3_rng1 {a : Expr} {fs : M3 (List D)} {p pos : Pos} (hg : Gl X "range") (hm : X.mg "range" = none) (ha : PA X [a] (T3a M fs)) (hs : starEach [a] X.env = [(false, eval a X.env)] := by rfl) : PI X tg (.Call (.Name "range" p) [a] [] pos) (T3i M (irng1 fs)) := by
  refine PIi (pi_range1 hg hm ha hs) fun σ H R h => ?_
  refine t3i_ofA h fun B F env w ds v H1 c r p => ?_
  split at p
  · rename_i ds' w' ep
    split at ep
    · rename_i j
      obtain ⟨u, us, rfl, r1, z⟩ := r
      have z : us = [] := z
      subst z
      split at ep
      · rename_i hj
        cases ep
        refine ⟨j, by rw [show u = V.int j from r1], hj.1, hj.2, p F H1 _ c.self ?_⟩
        have := itr_ok (M := M) (F := F) (H := H1) (lo := 0) (n := j.toNat)
        simpa using this
      · cases ep
    · cases ep
  · exact p.elim
end
end L3

set_option Elab.async false
set_option linter.all false
set_option maxRecDepth 100000
set_option maxHeartbeats 4000000
/-! L3Loop: for, list comprehensions, owned lists. -/
namespace L3
open PySem PySem.Spec PyProof.Rows L2

def forL (g : G3) (b : St3) : List D → St3
  | [] => fun env w => .nx env w
  | d :: ds => fun env w => match g d env with
    | none => .bad
    | some e => match b e w with
      | .nx e2 w2 => forL g b ds e2 w2
      | .ct e2 w2 => forL g b ds e2 w2
      | .bk e2 w2 => .nx e2 w2
      | .ret d w2 => .ret d w2
      | .bad => .bad
def sfor (f : M3 (List D)) (g : G3) (b : St3) : St3 := fun env w => match f env w with
  | .ok ds w' => forL g b ds env w'
  | .bad => .bad
theorem PostS.nx_of {M : Ms} {B : Bs} {F : FS} {H : Hp} {D0 : Ends} {e : Env3} {w : Wd} {F' : FS} {σ' : Sl} {H' : Hp} (p : PostS M B F H D0 (.nx e w)) (c : Cor M B F' e w σ' H') (m : Mono F H F' H') : D0.nx σ' H' := p F' σ' H' c m
section
variable {X : Cx} {M : Ms} {tg iter : Expr} {body : List Stmt} {f : M3 (List D)} {g : G3} {b : St3} {pos : Pos}
theorem s3_for (hp : PassesOwn (model X.prog X.w) X.A X.env X.xe) (hc : X.calm = true) (hi : PI X tg iter (T3i M f)) {vs : List Nat} (hg : PG X tg (T3g M g vs)) (hb : PSs X body (TS3 M b)) (hs : ∀ x, foldedSetIterable iter X.env x = pure x := by intro _; rfl) :
    PS X (.For tg iter body [] pos) (TS3 M (sfor f g b)) := by
  refine PSi (ps_for hp hc hi hg hb hs) fun D0 σ H h => ?_
  obtain ⟨B, F0, env0, w0, c0, p0⟩ := h
  refine ⟨B, F0, env0, w0, c0, ?_⟩
  unfold sfor at p0
  cases ef : f env0 w0 with
  | bad => rw [ef] at p0; exact p0
  | ok ds w1 =>
    rw [ef] at p0
    intro F1 H1 J g1 ok
    have c1 := c0.grow g1
    have p1 : PostS M B F1 H1 D0 (forL g b ds env0 w1) := PostS.grow g1.mono p0
    refine ⟨fun i m σ H => i ≤ ds.length ∧ m = ds.length - i ∧ ∃ F env w, Cor M B F env w σ H ∧ Mono F1 H1 F H ∧ PostS M B F H D0 (forL g b (ds.drop i) env w),
      ⟨ds.length, Nat.zero_le _, rfl, F1, env0, w1, c1, .refl, by rw [List.drop_zero]; exact p1⟩, ?_⟩
    rintro i m σ H ⟨hi, rfl, F, env, w, c, m1, p⟩
    have it := ok i F H w m1 c.gd.dom c.gd.world
    by_cases hlt : i < ds.length
    · refine .inr ?_
      obtain ⟨go, yl⟩ := it.2 ds[i] (List.getElem?_eq_getElem hlt)
      refine ⟨go, fun σ' H' => ∃ F' env' w', Cor M B F' env' w' σ' H' ∧ Mono F1 H1 F' H' ∧ PostS M B F' H' D0 (forL g b (ds.drop (i + 1)) env' w'), fun σ' H' h => ⟨ds.length - (i + 1), by omega, hlt, rfl, h⟩, fun x H' hy => ?_⟩
      obtain ⟨F', gr, r⟩ := yl x H' hy
      have c' := c.grow gr
      have p' := PostS.grow gr.mono p
      have hd : ds.drop i = ds[i] :: ds.drop (i + 1) := List.drop_eq_getElem_cons hlt
      rw [hd] at p'
      unfold forL at p'
      refine ⟨B, F', env, w, ds[i], c', r, ?_⟩
      cases eg : g ds[i] env with
      | none => rw [eg] at p'; exact p'
      | some e2 =>
        rw [eg] at p'
        intro σ2 c2 _
        have m2 : Mono F' H' F' H' := .refl
        refine ⟨B, F', e2, w, c2, ?_⟩
        dsimp only at p'
        cases eb : b e2 w with
        | nx e3 w3 =>
          rw [eb] at p'
          exact fun F3 σ3 H3 c3 m3 => ⟨F3, e3, w3, c3, m1.trans (gr.mono.trans (m2.trans m3)), p'.grow (m2.trans m3)⟩
        | ct e3 w3 =>
          rw [eb] at p'
          exact fun F3 σ3 H3 c3 m3 => ⟨F3, e3, w3, c3, m1.trans (gr.mono.trans (m2.trans m3)), p'.grow (m2.trans m3)⟩
        | bk e3 w3 =>
          rw [eb] at p'
          exact fun F3 σ3 H3 c3 m3 => p'.nx_of c3 (m2.trans m3)
        | ret d w3 =>
          rw [eb] at p'
          exact PostS.grow (r := .ret d w3) m2 p'
        | bad => rw [eb] at p'; exact p'
    · refine .inl ⟨it.1 (by omega), ?_⟩
      have hd : ds.drop i = [] := List.drop_eq_nil_of_le (by omega)
      rw [hd] at p
      exact p F σ H c .refl
end

/-! ### list comprehensions -/
/-- the comprehension's own names have no value ahead of each turn -/
def wipeE (env : Env3) : List Nat → Env3
  | [] => env
  | i :: r => wipeE (env.set i none) r
def lcL (g : G3) (t : M3 Bool) (f : M3 D) (vs : List Nat) : List D → Env3 → Wd → List D → R3 (List D)
  | [], _, w, acc => .ok acc w
  | d :: ds, env, w, acc => match g d (wipeE env vs) with
    | none => .bad
    | some e => match t e w with
      | .bad => .bad
      | .ok false w2 => lcL g t f vs ds env w2 acc
      | .ok true w2 => match f e w2 with
        | .bad => .bad
        | .ok x w3 => if acc.length < SL then lcL g t f vs ds env w3 (acc ++ [x]) else .bad
def mlc (it : M3 (List D)) (g : G3) (t : M3 Bool) (f : M3 D) (vs : List Nat) : M3 D := fun env w => match it env w with
  | .bad => .bad
  | .ok ds w' => match lcL g t f vs ds env w' [] with
    | .bad => .bad
    | .ok xs w2 => .ok (.lst xs) w2
theorem wipeE_length : ∀ (vs : List Nat) (env : Env3), (wipeE env vs).length = env.length
  | [], env => rfl
  | i :: r, env => by
    show (wipeE (env.set i none) r).length = env.length
    rw [wipeE_length r]; simp
theorem wipeE_some : ∀ (vs : List Nat) (env : Env3) (j : Nat) (d : Bool × D), (wipeE env vs)[j]? = some (some d) → env[j]? = some (some d) ∧ j ∉ vs
  | [], env, j, d, h => ⟨h, by simp⟩
  | i :: r, env, j, d, h => by
    have h : (wipeE (env.set i none) r)[j]? = some (some d) := h
    obtain ⟨h1, h2⟩ := wipeE_some r _ j d h
    by_cases ij : i = j
    · subst ij
      have hi : i < env.length := by
        have := (List.getElem?_eq_some_iff.mp h1).1
        simpa using this
      rw [List.getElem?_set_self hi] at h1
      cases h1
    · rw [List.getElem?_set_ne ij] at h1
      exact ⟨h1, by simp only [List.mem_cons, not_or]; exact ⟨fun z => ij z.symm, h2⟩⟩
theorem wipe_ne : ∀ (vs : List Nat) (σ : Sl) (j : Nat), j ∉ vs → (wipe σ vs)[j]? = σ[j]?
  | [], σ, j, _ => rfl
  | i :: r, σ, j, h => by
    simp only [List.mem_cons, not_or] at h
    show ((L2.wipe σ r).set i none)[j]? = σ[j]?
    rw [List.getElem?_set_ne (fun z => h.1 z.symm), wipe_ne r _ j h.2]
theorem Cor.wipe {M : Ms} {B : Bs} {F : FS} {env : Env3} {w : Wd} {σ : Sl} {H : Hp} (c : Cor M B F env w σ H) (vs : List Nat) : Cor M B F (wipeE env vs) w (L2.wipe σ vs) H where
  gd := c.gd
  len := by rw [wipeE_length, wipe_length]; exact c.len
  fro := fun i d h => by
    obtain ⟨h1, h2⟩ := wipeE_some vs env i _ h
    rw [wipe_ne vs σ i h2]
    exact c.fro i d h1
  own := fun i d h => by
    obtain ⟨h1, h2⟩ := wipeE_some vs env i _ h
    rw [wipe_ne vs σ i h2]
    exact c.own i d h1
  sep := fun i j d e v h1 h2 h3 h4 => by
    obtain ⟨h1, n1⟩ := wipeE_some vs env i _ h1
    obtain ⟨h2, n2⟩ := wipeE_some vs env j _ h2
    rw [wipe_ne vs σ i n1] at h3
    rw [wipe_ne vs σ j n2] at h4
    exact c.sep i j d e v h1 h2 h3 h4
/-- what is made new: an object that nobody knows yet -/
def PostN (M : Ms) (F : FS) (H : Hp) (r : R3 D) (Q : VK) : Prop := match r with
  | .ok d w' => ∀ F' H' a, Grow M F H F' w' H' → ¬ F' a → H a = none → ¬ isDk M a → OwnC M F' H' a d → Q (.ref a) H'
  | .bad => False
def T3n (M : Ms) (f : M3 D) : TE := fun σ H Q => ∃ B F env w, Cor M B F env w σ H ∧ PostN M F H (f env w) Q
theorem Grow.freeze {M : Ms} {F F' : FS} {H H' : Hp} {w' : Wd} {a : Addr} (g : Grow M F H F' w' H') (ha : H a = none) (nd : ¬ isDk M a) (h : H' a ≠ none) : Grow M F H (fun b => F' b ∨ b = a) w' H' where
  sub := fun b f => .inl (g.sub b f)
  keep := g.keep
  old := fun b f n => by
    rcases f with f | rfl
    · exact g.old b f n
    · exact absurd ha n
  dom := fun b f => by
    rcases f with f | rfl
    · exact g.dom b f
    · exact h
  world := fun p e => by
    obtain ⟨h1, h2, h3, h4, h5⟩ := g.world p e
    refine ⟨h1, h2, ?_, ?_, h5⟩
    · rintro (f | z)
      · exact h3 f
      · exact nd ⟨p, e, .inl z.symm⟩
    · rintro (f | z)
      · exact h4 f
      · exact nd ⟨p, e, .inr z.symm⟩
  tups := g.tups
theorem Ext.put {F : FS} {H : Hp} {a : Addr} {o : HO} (nf : ¬ F a) (nt : ∀ xs, H a ≠ some (.tup xs)) : Ext F H (upd H a o) := fun b u f e => by
  have hb : b ≠ a := by
    rintro rfl
    rcases f with f | ⟨xs, rfl⟩
    · exact nf f
    · exact nt xs e
  rw [upd_ne hb]; exact e
theorem tups_put {H0 H : Hp} {a : Addr} {o : HO} (t : ∀ b xs, H0 b = some (.tup xs) → H b = some (.tup xs)) (nt : ∀ xs, H a ≠ some (.tup xs)) : ∀ b xs, H0 b = some (.tup xs) → upd H a o b = some (.tup xs) := fun b xs e => by
  have hb : b ≠ a := by rintro rfl; exact nt xs (t b xs e)
  rw [upd_ne hb]; exact t b xs e
theorem OwnC.noTup {M : Ms} {F : FS} {H : Hp} {a : Addr} {d : D} (h : OwnC M F H a d) : ∀ xs, H a ≠ some (.tup xs) := fun xs z => by
  cases d with
  | lst ds => obtain ⟨ys, e, _⟩ := h; rw [e] at z; cases z
  | dic t kvs => cases t <;> (obtain ⟨ys, e, _⟩ := h; rw [e] at z; cases z)
  | obj c ds => obtain ⟨dx, ys, e, _⟩ := h; rw [e] at z; cases z
  | _ => exact h.elim
/-- a value's object is known from now on: it may be locked -/
def LockV (v : V) (H : Hp) (Q : VK) : Prop := Q v H ∨ ∃ d u, v = .ref d ∧ H d = some u ∧ Mut (some u) ∧ ∀ od, Q v (upd H d (.frz od u))
theorem pe_lockV {X : Cx} {e : Expr} {t : TE} (h : PE X e t) : PE X e (fun σ H Q => t σ H fun v H' => LockV v H' Q) := by
  refine ⟨fun pins s σ H Q I q => thn (h.run pins s σ H _ I q) fun u s1 ⟨v, H1, I1, r, q1⟩ => ?_⟩
  rcases q1 with q1 | ⟨d, o, rfl, hd, mu, q1⟩
  · exact ⟨v, H1, I1, r, q1⟩
  · obtain ⟨od, I2⟩ := I1.lock hd mu
    exact ⟨_, _, I2, r, q1 od⟩
theorem pss_lockV {X : Cx} {sts : List Stmt} {t : TS} (h : PSs X sts t) : PSs X sts (fun D σ H => t D σ H ∨ ∃ d u, H d = some u ∧ Mut (some u) ∧ ∀ od, t D σ (upd H d (.frz od u))) := by
  refine ⟨fun pins s σ H D I q => ?_⟩
  rcases q with q | ⟨d, o, hd, mu, q⟩
  · exact h.run pins s σ H D I q
  · obtain ⟨od, I2⟩ := I.lock hd mu
    exact h.run pins s σ _ D I2 (q od)
theorem Grow.lockd {M : Ms} {F F' : FS} {H H' : Hp} {w' : Wd} {a : Addr} {o : HO} (g : Grow M F H F' w' H') (nf : ¬ F' a) (ha : H a = none) (nd : ¬ isDk M a) : Grow M F H (fun b => F' b ∨ b = a) w' (upd H' a o) where
  sub := fun b f => .inl (g.sub b f)
  keep := fun b u e n => by rw [upd_ne (ne_of_none e ha)]; exact g.keep b u e n
  old := fun b f n => by
    rcases f with f | rfl
    · exact g.old b f n
    · exact absurd ha n
  dom := fun b f => by
    by_cases e : b = a
    · subst e; rw [upd_same]; exact fun z => by cases z
    · rw [upd_ne e]
      rcases f with f | z
      · exact g.dom b f
      · exact absurd z e
  world := fun p e => by
    obtain ⟨h1, h2, h3, h4, h5⟩ := g.world p e
    have k1 : p.1 ≠ a := fun z => nd ⟨p, e, .inl z.symm⟩
    have k2 : p.2 ≠ a := fun z => nd ⟨p, e, .inr z.symm⟩
    refine ⟨by rw [upd_ne k1]; exact h1, by rw [upd_ne k2]; exact h2, ?_, ?_, h5⟩
    · rintro (f | z)
      · exact h3 f
      · exact k1 z
    · rintro (f | z)
      · exact h4 f
      · exact k2 z
  tups := fun b xs e => by rw [upd_ne (ne_of_none e ha)]; exact g.tups b xs e
def isDic : D → Bool
  | .dic _ _ => true
  | _ => false
theorem OwnC.rel {M : Ms} {F : FS} {H : Hp} {a : Addr} {d : D} (h : OwnC M F H a d) (hd : isDic d = false) (hl : ∀ c ds, d = .obj c ds → (M.nm c).length = ds.length) : RelD M (fun b => F b ∨ b = a) H d (.ref a) := by
  have s : Sub F (fun b => F b ∨ b = a) := fun b f => .inl f
  have e : Ext F H H := fun _ _ _ h => h
  cases d with
  | lst ds =>
    obtain ⟨xs, h, r⟩ := h
    exact ⟨a, xs, rfl, ⟨.inr rfl, h⟩, RelDs.mono s e _ _ r⟩
  | dic t kvs => cases hd
  | obj c ds =>
    obtain ⟨dx, xs, h, r⟩ := h
    have hz := hl c ds rfl
    have hz2 := r.length
    rw [← hz, List.take_length] at h
    exact ⟨a, dx, xs, rfl, .inr rfl, h, by rw [hz, hz2], RelDs.mono s e _ _ r⟩
  | _ => exact h.elim
theorem OwnC.lock {M : Ms} {F : FS} {H : Hp} {a : Addr} {d : D} (h : OwnC M F H a d) (hd : isDic d = true) (nf : ¬ F a) : ∃ u, H a = some u ∧ Mut (some u) ∧ (∀ xs, u ≠ .tup xs) ∧ ∀ od, RelD M (fun b => F b ∨ b = a) (upd H a (.frz od u)) d (.ref a) := by
  have s : Sub F (fun b => F b ∨ b = a) := fun b f => .inl f
  have ex : ∀ u od, H a = some u → (∀ xs, u ≠ .tup xs) → Ext F H (upd H a (.frz od u)) := fun u od hu hn b o f e => by
    have hb : b ≠ a := by
      rintro rfl
      rcases f with f | ⟨xs, rfl⟩
      · exact nf f
      · rw [hu] at e; cases e; exact hn xs rfl
    rw [upd_ne hb]; exact e
  cases d with
  | dic t kvs =>
    cases t with
    | false =>
      obtain ⟨xs, h, r⟩ := h
      exact ⟨_, h, True.intro, (fun _ z => by cases z), fun od => ⟨a, od, xs, rfl, .inr rfl, upd_same, RelKs.mono s (ex _ od h (fun _ z => by cases z)) _ _ r⟩⟩
    | true =>
      obtain ⟨xs, h, r⟩ := h
      exact ⟨_, h, True.intro, (fun _ z => by cases z), fun od => ⟨a, od, xs, rfl, .inr rfl, upd_same, RelTs.mono s (ex _ od h (fun _ z => by cases z)) _ _ r⟩⟩
  | _ => cases hd
/-- frozen at once -/
theorem n3 {X : Cx} {M : Ms} {e : Expr} {f : M3 D} (h : PE X e (T3n M f)) (hl : ∀ env w c ds w', f env w = .ok (.obj c ds) w' → (M.nm c).length = ds.length := by intro env w c ds w' h; cases h) : PE X e (T3 M f) := PEi (pe_lockV h) fun σ H Q h => by
  obtain ⟨B, F, env, w, c, p⟩ := h
  refine ⟨B, F, env, w, c, ?_⟩
  cases ef : f env w with
  | bad => rw [ef] at p; exact p
  | ok d w' =>
    rw [ef] at p
    intro F' H' a g nf ha nd oc
    obtain ⟨o, ho⟩ := oc.there
    cases hd : isDic d with
    | false => exact .inl (p _ H' _ (g.freeze ha nd (by rw [ho]; exact fun z => by cases z)) (oc.rel hd fun c ds e => hl env w c ds w' (by rw [ef, e])))
    | true =>
      obtain ⟨u, hu, mu, _, r⟩ := oc.lock hd nf
      exact .inr ⟨a, u, rfl, hu, mu, fun od => p _ _ _ (g.lockd nf ha nd) (r od)⟩
section
variable {X : Cx} {M : Ms}
theorem fresh_dk {F : FS} {w : Wd} {H : Hp} {a : Addr} (hw : WRel M F w H) (ha : H a = none) : ¬ isDk M a := fun d => hw.there d ha
theorem wipe_eq {vs : List Nat} {σ σ' : Sl} (o : Outs vs (L2.wipe σ vs) σ') : L2.wipe σ' vs = L2.wipe σ vs := by
  have w1 : ∀ (us : List Nat) (σ : Sl) (j : Nat), j ∈ us → j < σ.length → (L2.wipe σ us)[j]? = some none := by
    intro us
    induction us with
    | nil => intro σ j h; simp at h
    | cons i r ih =>
      intro σ j h hl
      show ((L2.wipe σ r).set i none)[j]? = some none
      by_cases ij : i = j
      · subst ij
        exact List.getElem?_set_self (by rw [wipe_length]; exact hl)
      · rw [List.getElem?_set_ne ij]
        rcases List.mem_cons.mp h with e | e
        · exact absurd e.symm ij
        · exact ih _ j e hl
  have l : σ'.length = σ.length := by rw [o.len, wipe_length]
  apply List.ext_getElem?
  intro j
  by_cases hj : j ∈ vs
  · by_cases hl : j < σ.length
    · rw [w1 vs σ' j hj (by omega), w1 vs σ j hj hl]
    · rw [List.getElem?_eq_none (by rw [wipe_length]; omega), List.getElem?_eq_none (by rw [wipe_length]; omega)]
  · rw [wipe_ne vs σ' j hj]
    exact o.out j hj
/-- the loop of a comprehension -/
theorem tlc_of {it : M3 (List D)} {g : G3} {t : M3 Bool} {f : M3 D} {vs : List Nat} : ∀ σ H Q, T3n M (mlc it g t f vs) σ H Q → tLc (T3i M it) (T3g M g vs) (T3t M t) (T3 M f) vs σ H Q := by
  intro σ H Q h
  obtain ⟨B, F0, env, w0, c0, p0⟩ := h
  refine ⟨B, F0, env, w0, c0, ?_⟩
  unfold mlc at p0
  cases ei : it env w0 with
  | bad => rw [ei] at p0; exact p0
  | ok ds w1 =>
    rw [ei] at p0
    dsimp only at p0
    intro F1 H1 J g1 ok D hD
    cases el : lcL g t f vs ds env w1 [] with
    | bad => rw [el] at p0; exact p0.elim
    | ok xs wn =>
      rw [el] at p0
      have c1 := c0.grow g1
      -- the new list stands at D; nobody knows it
      have nF : ¬ F1 D := fun z => c1.gd.dom D z hD
      have nD : ¬ isDk M D := fresh_dk c1.gd.world hD
      have hD0 : H D = none := by
        cases q : H D with
        | none => rfl
        | some o => rw [g1.keep D o q nD] at hD; cases hD
      -- D is stored into, from any state behind H1
      have put : ∀ {F : FS} {w : Wd} {H2 : Hp} {o : HO}, Grow M F1 H1 F w H2 → ¬ F D → Grow M F1 H1 F w (upd H2 D o) := fun {F w H2 o} gr nf => by
        refine ⟨gr.sub, fun b u e n => by rw [upd_ne (ne_of_none e hD)]; exact gr.keep b u e n, gr.old, fun b f => ?_, fun p e => ?_, fun b xs e => by rw [upd_ne (ne_of_none e hD)]; exact gr.tups b xs e⟩
        · have hb : b ≠ D := fun z => nf (z ▸ f)
          rw [upd_ne hb]
          exact gr.dom b f
        · obtain ⟨h1, h2, h3, h4, h5⟩ := gr.world p e
          have k1 : p.1 ≠ D := fun z => nD ⟨p, e, .inl z.symm⟩
          have k2 : p.2 ≠ D := fun z => nD ⟨p, e, .inr z.symm⟩
          exact ⟨by rw [upd_ne k1]; exact h1, by rw [upd_ne k2]; exact h2, h3, h4, h5⟩
      refine ⟨fun i m H => i ≤ ds.length ∧ m = ds.length - i ∧ ∃ F w acc ys, Grow M F1 H1 F w H ∧ ¬ F D ∧ H D = some (.lst ys) ∧ RelDs M F H acc ys ∧ acc.length ≤ SL ∧ lcL g t f vs (ds.drop i) env w acc = .ok xs wn,
        ⟨ds.length, Nat.zero_le _, rfl, F1, w1, [], [], put (.refl c1.gd.dom c1.gd.world) nF, nF, upd_same, rfl, Nat.zero_le _, by rw [List.drop_zero]; exact el⟩, ?_⟩
      rintro i m H2 ⟨hi, rfl, F, w, acc, ys, gr, nFD, hDl, ra, hz, eq⟩
      have c := c1.grow gr
      have itk := ok i F H2 w gr.mono c.gd.dom c.gd.world
      by_cases hlt : i < ds.length
      · refine .inr ?_
        obtain ⟨go, yl⟩ := itk.2 ds[i] (List.getElem?_eq_getElem hlt)
        refine ⟨go, fun H' => ∃ F w acc ys, Grow M F1 H1 F w H' ∧ ¬ F D ∧ H' D = some (.lst ys) ∧ RelDs M F H' acc ys ∧ acc.length ≤ SL ∧ lcL g t f vs (ds.drop (i + 1)) env w acc = .ok xs wn, fun H' h => ⟨ds.length - (i + 1), by omega, hlt, rfl, h⟩, fun x H3 hy => ?_⟩
        obtain ⟨F3, g3, r3⟩ := yl x H3 hy
        have c3 := c.grow g3
        have hd : ds.drop i = ds[i] :: ds.drop (i + 1) := List.drop_eq_getElem_cons hlt
        rw [hd] at eq
        unfold lcL at eq
        have hDk : ∀ {F' F'' : FS} {w' : Wd} {H' H'' : Hp} {ys : List V}, Grow M F' H' F'' w' H'' → ¬ F' D → H' D = some (.lst ys) → ¬ F'' D ∧ H'' D = some (.lst ys) := fun {_ _ _ _ _ _} gg nf hh => ⟨fun z => nf (gg.old D z (by rw [hh]; exact fun z => by cases z)), gg.keep D _ hh nD⟩
        obtain ⟨nF3, hD3⟩ := hDk g3 nFD hDl
        have ra3 := RelDs.mono g3.sub g3.ext _ _ ra
        refine ⟨B, F3, wipeE env vs, w, ds[i], c3.wipe vs, r3, ?_⟩
        cases eg : g ds[i] (wipeE env vs) with
        | none => rw [eg] at eq; cases eq
        | some e2 =>
          rw [eg] at eq
          dsimp only at eq
          intro σ4 c4 o4
          refine ⟨wipe_eq o4, B, F3, e2, w, c4, ?_⟩
          cases et : t e2 w with
          | bad => rw [et] at eq; cases eq
          | ok k w5 =>
            rw [et] at eq
            intro F5 H5 g5
            obtain ⟨nF5, hD5⟩ := hDk g5 nF3 hD3
            have ra5 := RelDs.mono g5.sub g5.ext _ _ ra3
            cases k with
            | false =>
              rw [if_neg Bool.false_ne_true]
              exact ⟨F5, w5, acc, ys, gr.trans (g3.trans g5), nF5, hD5, ra5, hz, eq⟩
            | true =>
              rw [if_pos rfl]
              dsimp only at eq
              refine ⟨B, F5, e2, w5, c4.grow g5, ?_⟩
              cases ee : f e2 w5 with
              | bad => rw [ee] at eq; cases eq
              | ok d w6 =>
                rw [ee] at eq
                dsimp only at eq
                intro F6 H6 y g6 r6
                obtain ⟨nF6, hD6⟩ := hDk g6 nF5 hD5
                have ra6 := RelDs.mono g6.sub g6.ext _ _ ra5
                split at eq
                · rename_i hl
                  have big := put (o := .lst (ys ++ [y])) (gr.trans (g3.trans (g5.trans g6))) nF6
                  have ex : Ext F6 H6 (upd H6 D (.lst (ys ++ [y]))) := .put nF6 (fun xs z => by rw [hD6] at z; cases z)
                  refine ⟨ys, hD6, by rw [SL_eq, ← ra6.length]; exact hl, F6, w6, acc ++ [d], ys ++ [y], big, nF6, upd_same, ?_, by rw [List.length_append]; exact hl, eq⟩
                  exact (RelDs.mono (fun _ h => h) ex _ _ ra6).append (RelDs.one (RelD.mono (fun _ h => h) ex _ _ r6))
                · cases eq
      · refine .inl ⟨itk.1 (by omega), ?_⟩
        have hd : ds.drop i = [] := List.drop_eq_nil_of_le (by omega)
        rw [hd] at eq
        cases eq
        exact p0 F H2 D (g1.trans gr) nFD hD0 nD ⟨ys, hDl, ra⟩
def tyes : M3 Bool := M3.ret true
/-- the tests of a comprehension -/
theorem t3_yes : ∀ σ H Q, T3t M tyes σ H Q → tYes σ H Q := fun σ H Q ⟨B, F, env, w, c, p⟩ => p F H c.self
theorem PTsi {ifs : List Expr} {t t' : TT} (h : PTs X ifs t) (i : ∀ σ H Q, t' σ H Q → t σ H Q) : PTs X ifs t' := ⟨fun pins s σ H Q I q => h.run pins s σ H Q I (i σ H Q q)⟩
theorem t3s_nil : PTs X [] (T3t M tyes) := PTsi pts_nil t3_yes
theorem t3s_one {c : Expr} {t : M3 Bool} (h : PT X c (T3t M t)) : PTs X [c] (T3t M t) := pts_one h
theorem e3_lc {elt tg iter : Expr} {ifs : List Expr} {scope : Scope} {own : List (Str × Nat)} {pos : Pos} {it : M3 (List D)} {g : G3} {t : M3 Bool} {f : M3 D} (hc : X.calm = true) (hN : X.N.Nodup) (hi : PI X tg iter (T3i M it)) (ok : BlkOk X.N X.env.scope scope own)
    (hg : ∀ (s : Shared) (H : Hp) (C : Addr) (cl : List (Str × Addr)) (fp : List Addr), PG (X.blk s H scope (compEnvC scope cl C X.env) fp) tg (T3g M g (own.map (·.2)))) (ht : ∀ (s : Shared) (H : Hp) (C : Addr) (cl : List (Str × Addr)) (fp : List Addr), PTs (X.blk s H scope (compEnvC scope cl C X.env) fp) ifs (T3t M t))
    (he : ∀ (s : Shared) (H : Hp) (C : Addr) (cl : List (Str × Addr)) (fp : List Addr), PE (X.blk s H scope (compEnvC scope cl C X.env) fp) elt (T3 M f)) (hs : ∀ x, foldedSetIterable iter X.env x = pure x := by intro _; rfl) :
    PE X (.ListComp elt [⟨tg, iter, ifs, 0⟩] scope pos) (T3n M (mlc it g t f (own.map (·.2)))) := PEi (pe_lc hc hN hi ok hg ht he hs) tlc_of
end

/-! ### owned slots -/
def son (i : Nat) (fe : M3 D) : St3 := fun env w => match fe env w with
  | .ok d w' => if i < env.length then .nx (env.set i (some (true, d))) w' else .bad
  | .bad => .bad
theorem Cor.setN {M : Ms} {B : Bs} {F : FS} {env : Env3} {w : Wd} {σ : Sl} {H : Hp} {d : D} {a : Addr} (c : Cor M B F env w σ H) (nf : ¬ F a) (h0 : B.H0 a = none) (nd : ¬ isDk M a) (oc : OwnC M F H a d)
    (fr : ∀ (j : Nat) (e : D), env[j]? = some (some (true, e)) → σ[j]? ≠ some (some (.ref a))) (i : Nat) : Cor M B F (env.set i (some (true, d))) w (σ.set i (some (.ref a))) H where
  gd := c.gd
  len := by simp [c.len]
  fro := fun j e h => by
    by_cases ij : i = j
    · subst ij
      have hi : i < env.length := by
        have := (List.getElem?_eq_some_iff.mp h).1
        simpa using this
      rw [List.getElem?_set_self hi] at h
      cases h
    · rw [List.getElem?_set_ne ij] at h
      rw [List.getElem?_set_ne ij]
      exact c.fro j e h
  own := fun j e h => by
    by_cases ij : i = j
    · subst ij
      have hi : i < env.length := by
        have := (List.getElem?_eq_some_iff.mp h).1
        simpa using this
      rw [List.getElem?_set_self hi] at h
      cases h
      exact ⟨.ref a, List.getElem?_set_self (by rw [c.len]; exact hi), a, rfl, nf, h0, nd, oc⟩
    · rw [List.getElem?_set_ne ij] at h
      rw [List.getElem?_set_ne ij]
      exact c.own j e h
  sep := fun j k e f u h1 h2 h3 h4 => by
    by_cases ij : i = j
    · by_cases ik : i = k
      · omega
      · subst ij
        rw [List.getElem?_set_ne ik] at h2 h4
        have hi : i < σ.length := by
          have := (List.getElem?_eq_some_iff.mp h3).1
          simpa using this
        rw [List.getElem?_set_self hi] at h3
        cases h3
        exact absurd h4 (fr k f h2)
    · by_cases ik : i = k
      · subst ik
        rw [List.getElem?_set_ne ij] at h1 h3
        have hi : i < σ.length := by
          have := (List.getElem?_eq_some_iff.mp h4).1
          simpa using this
        rw [List.getElem?_set_self hi] at h4
        cases h4
        exact absurd h3 (fr j e h1)
      · rw [List.getElem?_set_ne ij] at h1 h3
        rw [List.getElem?_set_ne ik] at h2 h4
        exact c.sep j k e f u h1 h2 h3 h4
theorem Cor.newN {M : Ms} {B : Bs} {F F' : FS} {env : Env3} {w w' : Wd} {σ : Sl} {H H' : Hp} {d : D} {a : Addr} (c : Cor M B F env w σ H) (g : Grow M F H F' w' H') (nf : ¬ F' a) (ha : H a = none) (nd : ¬ isDk M a) (oc : OwnC M F' H' a d) (i : Nat) :
    Cor M B F' (env.set i (some (true, d))) w' (σ.set i (some (.ref a))) H' := by
  refine (c.grow g).setN nf ?_ nd oc (fun j e h1 h2 => ?_) i
  · cases q : B.H0 a with
    | none => rfl
    | some o => rw [c.gd.keep a o q nd] at ha; cases ha
  · obtain ⟨v, h3, b, rfl, _, _, _, oc2⟩ := c.own j e h1
    rw [h2] at h3
    cases h3
    obtain ⟨o, ho⟩ := oc2.there
    rw [ha] at ho
    cases ho
section
variable {X : Cx} {M : Ms} {e : Expr} {fe : M3 D} {pos : Pos}
/-- x = a new object that this frame will change -/
theorem s3_new (i : Nat) {x : Str} {pos' : Pos} (hN : X.N.Nodup) (he : PE X e (T3n M fe)) (hi : X.N[i]? = some x := by rfl) (hx : Loc X.env.scope x := by first | exact Or.inl rfl | exact Or.inr rfl) (hs : swapsWith e (some (.Name x pos')) pos.line X.env = pure false := by rfl)
    (hf : X.fn x = true ∨ X.env.scope.names.lookup x = some .local := by first | exact .inl rfl | exact .inr rfl | assumption) : PS X (.Assign [.Name x pos'] e pos) (TS3 M (son i fe)) := by
  refine PSi (ps_set hN hi hx he hs hf) fun D0 σ H h => ?_
  obtain ⟨B, F, env, w, c, p⟩ := h
  refine ⟨B, F, env, w, c, ?_⟩
  unfold son at p
  cases ef : fe env w with
  | bad => rw [ef] at p; exact p
  | ok d w' =>
    rw [ef] at p
    dsimp only at p
    intro F' H' a g nf ha nd oc
    split at p
    · exact p F' _ H' (c.newN g nf ha nd oc i) g.mono
    · exact p.elim
/-- x = [.. for ..] on one line, kept (frozen) or owned -/
theorem s3_setLcN {i : Nat} {y : Str} {py : Pos} {elt tg iter : Expr} {ifs : List Expr} {scope : Scope} {own : List (Str × Nat)} {spos : Pos} {it : M3 (List D)} {g : G3} {t : M3 Bool} {f : M3 D} (hc : X.calm = true) (hN : X.N.Nodup) (hi : PI X tg iter (T3i M it)) (ok : BlkOk X.N X.env.scope scope own)
    (hg : ∀ (s : Shared) (H : Hp) (C : Addr) (cl : List (Str × Addr)) (fp : List Addr), PG (X.blk s H scope (compEnvC scope cl C X.env) fp) tg (T3g M g (own.map (·.2)))) (ht : ∀ (s : Shared) (H : Hp) (C : Addr) (cl : List (Str × Addr)) (fp : List Addr), PTs (X.blk s H scope (compEnvC scope cl C X.env) fp) ifs (T3t M t))
    (he : ∀ (s : Shared) (H : Hp) (C : Addr) (cl : List (Str × Addr)) (fp : List Addr), PE (X.blk s H scope (compEnvC scope cl C X.env) fp) elt (T3 M f)) (hy : X.N[i]? = some y := by rfl) (hyl : X.env.scope.names.lookup y = some .local := by rfl)
    (hsw : swapsWith (.ListComp elt [⟨tg, iter, ifs, 0⟩] scope pos) (some (.Name y py)) spos.line X.env = pure true := by exact sw_true rfl rfl rfl (by decide +kernel)) (hs : ∀ x, foldedSetIterable iter X.env x = pure x := by intro _; rfl) :
    PS X (.Assign [.Name y py] (.ListComp elt [⟨tg, iter, ifs, 0⟩] scope pos) spos) (TS3 M (son i (mlc it g t f (own.map (·.2))))) := by
  refine PSi (ps_setLc hc hN hy hyl hsw hi ok hg ht he hs) fun D0 σ H h => ?_
  refine tlc_of _ _ _ ?_
  obtain ⟨B, F, env, w, c, p⟩ := h
  refine ⟨B, F, env, w, c, ?_⟩
  unfold son at p
  cases ef : mlc it g t f (own.map (·.2)) env w with
  | bad => rw [ef] at p; exact p
  | ok d w' =>
    rw [ef] at p
    dsimp only at p
    intro F' H' a g nf ha nd oc
    split at p
    · exact p F' _ H' (c.newN g nf ha nd oc i) g.mono
    · exact p.elim
/-- an owned slot is frozen -/
def fz (i : Nat) (f : St3) : St3 := fun env w => match env[i]? with
  | some (some (_, d)) => f (env.set i (some (false, d))) w
  | _ => .bad
theorem Cor.freezeG {B : Bs} {F : FS} {env : Env3} {w : Wd} {σ : Sl} {H H2 : Hp} {i : Nat} {d : D} {a : Addr} (c : Cor M B F env w σ H) (h : env[i]? = some (some (true, d))) (hv : σ[i]? = some (some (.ref a)))
    (h2 : ∀ b, b ≠ a → H2 b = H b) (ha2 : H2 a ≠ none) (hr : RelD M (fun b => F b ∨ b = a) H2 d (.ref a)) : Cor M B (fun b => F b ∨ b = a) (env.set i (some (false, d))) w σ H2 ∧ Mono F H (fun b => F b ∨ b = a) H2 := by
  obtain ⟨v, hv', a', rfl, nf, h0, nd, oc⟩ := c.own i d h
  rw [hv] at hv'
  cases hv'
  have nt := oc.noTup
  have hi : i < env.length := (List.getElem?_eq_some_iff.mp h).1
  have s : Sub F (fun b => F b ∨ b = a) := fun b f => .inl f
  have ex : Ext F H H2 := fun b u f e => by
    have hb : b ≠ a := by
      rintro rfl
      rcases f with f | ⟨xs, rfl⟩
      · exact nf f
      · exact nt xs e
    rw [h2 b hb]; exact e
  refine ⟨⟨⟨fun b f => ?_, fun p e => ?_, fun b o e n => ?_, fun b f n => ?_, fun b f => .inl (c.gd.sub b f), fun b xs e => ?_⟩, by simp [c.len], fun j e hj => ?_, fun j e hj => ?_, fun j k e f u h1 h2 h3 h4 => ?_⟩, ⟨s, ex⟩⟩
  · by_cases hb : b = a
    · rw [hb]; exact ha2
    · rw [h2 b hb]
      rcases f with f | f
      · exact c.gd.dom b f
      · exact absurd f hb
  · obtain ⟨h1, h3, h4, h5, h6⟩ := c.gd.world p e
    have k1 : p.1 ≠ a := fun z => nd ⟨p, e, .inl z.symm⟩
    have k2 : p.2 ≠ a := fun z => nd ⟨p, e, .inr z.symm⟩
    refine ⟨by rw [h2 _ k1]; exact h1, by rw [h2 _ k2]; exact h3, ?_, ?_, h6⟩
    · rintro (f | z)
      · exact h4 f
      · exact k1 z
    · rintro (f | z)
      · exact h5 f
      · exact k2 z
  · have hb : b ≠ a := fun z => by subst z; rw [h0] at e; cases e
    rw [h2 b hb]; exact c.gd.keep b o e n
  · rcases f with f | rfl
    · exact c.gd.old b f n
    · exact absurd h0 n
  · have hb : b ≠ a := fun z => by subst z; rw [h0] at e; cases e
    rw [h2 b hb]; exact c.gd.tups b xs e
  · by_cases ij : i = j
    · subst ij
      rw [List.getElem?_set_self hi] at hj
      cases hj
      exact ⟨_, hv, hr⟩
    · rw [List.getElem?_set_ne ij] at hj
      obtain ⟨u, hu, r⟩ := c.fro j e hj
      exact ⟨u, hu, RelD.mono s ex _ _ r⟩
  · by_cases ij : i = j
    · subst ij
      rw [List.getElem?_set_self hi] at hj
      cases hj
    · rw [List.getElem?_set_ne ij] at hj
      obtain ⟨u, hu, b, rfl, nfb, h0b, ndb, ocb⟩ := c.own j e hj
      have hb : b ≠ a := fun z => by
        subst z
        exact ij (c.sep i j d e _ h hj hv hu)
      refine ⟨_, hu, b, rfl, ?_, h0b, ndb, ocb.mono s ex fun o q => by rw [h2 b hb]; exact q⟩
      rintro (f | z)
      · exact nfb f
      · exact hb z
  · by_cases ij : i = j
    · subst ij
      rw [List.getElem?_set_self hi] at h1
      cases h1
    · by_cases ik : i = k
      · subst ik
        rw [List.getElem?_set_self hi] at h2
        cases h2
      · rw [List.getElem?_set_ne ij] at h1
        rw [List.getElem?_set_ne ik] at h2
        exact c.sep j k e f u h1 h2 h3 h4
theorem Cor.freeze {B : Bs} {F : FS} {env : Env3} {w : Wd} {σ : Sl} {H : Hp} {i : Nat} {d : D} (c : Cor M B F env w σ H) (h : env[i]? = some (some (true, d))) (hd : isDic d = false) (hl : ∀ c ds, d = .obj c ds → (M.nm c).length = ds.length) : ∃ F', Cor M B F' (env.set i (some (false, d))) w σ H ∧ Mono F H F' H := by
  obtain ⟨v, hv, a, rfl, nf, h0, nd, oc⟩ := c.own i d h
  obtain ⟨o, ho⟩ := oc.there
  exact ⟨_, c.freezeG h hv (fun _ _ => rfl) (by rw [ho]; exact fun z => by cases z) (oc.rel hd hl)⟩
theorem Cor.freezeD {B : Bs} {F : FS} {env : Env3} {w : Wd} {σ : Sl} {H : Hp} {i : Nat} {d : D} (c : Cor M B F env w σ H) (h : env[i]? = some (some (true, d))) (hd : isDic d = true) : ∃ a u, H a = some u ∧ Mut (some u) ∧ ∀ od, ∃ F', Cor M B F' (env.set i (some (false, d))) w σ (upd H a (.frz od u)) ∧ Mono F H F' (upd H a (.frz od u)) := by
  obtain ⟨v, hv, a, rfl, nf, h0, nd, oc⟩ := c.own i d h
  obtain ⟨u, hu, mu, _, r⟩ := oc.lock hd nf
  exact ⟨a, u, hu, mu, fun od => ⟨_, c.freezeG h hv (fun b hb => upd_ne hb) (by rw [upd_same]; exact fun z => by cases z) (r od)⟩⟩
theorem Cor.refreeze {B : Bs} {F : FS} {env : Env3} {w : Wd} {σ : Sl} {H : Hp} {i : Nat} {d : D} (c : Cor M B F env w σ H) (h : env[i]? = some (some (false, d))) : env.set i (some (false, d)) = env := by
  apply List.ext_getElem?
  intro j
  by_cases ij : i = j
  · subst ij
    rw [List.getElem?_set_self (List.getElem?_eq_some_iff.mp h).1, h]
  · rw [List.getElem?_set_ne ij]
def notObj : D → Bool
  | .obj _ _ => false
  | _ => true
theorem ss_fz (i : Nat) {sts : List Stmt} {f : St3} (h : PSs X sts (TS3 M f)) : PSs X sts (TS3 M (fun env w => match env[i]? with
  | some (some (_, d)) => if notObj d then f (env.set i (some (false, d))) w else .bad
  | _ => .bad)) := PSsi (pss_lockV h) fun D0 σ H h => by
  obtain ⟨B, F, env, w, c, p⟩ := h
  dsimp only at p
  split at p
  · rename_i o d hd
    split at p
    · rename_i hn
      cases o with
      | false => exact .inl ⟨B, F, env, w, c, by rw [c.refreeze hd] at p; exact p⟩
      | true =>
        cases hz : isDic d with
        | false =>
          obtain ⟨F', c', m'⟩ := c.freeze hd hz (fun c ds e => by subst e; cases hn)
          exact .inl ⟨B, F', _, w, c', p.grow m'⟩
        | true =>
          obtain ⟨a, u, hu, mu, k⟩ := c.freezeD hd hz
          refine .inr ⟨a, u, hu, mu, fun od => ?_⟩
          obtain ⟨F', c', m'⟩ := k od
          exact ⟨B, F', _, w, c', p.grow m'⟩
    · exact p.elim
  · exact p.elim
/-- x.append(e), x owned -/
def sapp (i : Nat) (fe : M3 D) : St3 := fun env w => match env[i]? with
  | some (some (true, .lst ds)) => match fe env w with
    | .ok d w' => if ds.length < SL then .nx (env.set i (some (true, .lst (ds ++ [d])))) w' else .bad
    | .bad => .bad
  | _ => .bad
theorem Cor.put {B : Bs} {F : FS} {env : Env3} {w : Wd} {σ : Sl} {H : Hp} {i : Nat} {d d' : D} {a : Addr} {o : HO} (c : Cor M B F env w σ H) (h : env[i]? = some (some (true, d))) (hv : σ[i]? = some (some (.ref a))) (hn : OwnC M F (upd H a o) a d') :
    Cor M B F (env.set i (some (true, d'))) w σ (upd H a o) ∧ Mono F H F (upd H a o) := by
  obtain ⟨v, hv', a', rfl, nf, h0, nd, oc⟩ := c.own i d h
  rw [hv] at hv'
  cases hv'
  have hi : i < env.length := (List.getElem?_eq_some_iff.mp h).1
  have ex : Ext F H (upd H a o) := .put nf oc.noTup
  refine ⟨⟨⟨fun b f => ?_, fun p e => ?_, fun b u e n => ?_, c.gd.old, c.gd.sub, tups_put c.gd.tups oc.noTup⟩, by simp [c.len], fun j e hj => ?_, fun j e hj => ?_, fun j k e f u h1 h2 h3 h4 => ?_⟩, fun _ h => h, ex⟩
  · have hb : b ≠ a := fun z => nf (z ▸ f)
    rw [upd_ne hb]; exact c.gd.dom b f
  · obtain ⟨h1, h2, h3, h4, h5⟩ := c.gd.world p e
    have k1 : p.1 ≠ a := fun z => nd ⟨p, e, .inl z.symm⟩
    have k2 : p.2 ≠ a := fun z => nd ⟨p, e, .inr z.symm⟩
    exact ⟨by rw [upd_ne k1]; exact h1, by rw [upd_ne k2]; exact h2, h3, h4, h5⟩
  · have hb : b ≠ a := fun z => by subst z; rw [h0] at e; cases e
    rw [upd_ne hb]; exact c.gd.keep b u e n
  · by_cases ij : i = j
    · subst ij
      rw [List.getElem?_set_self hi] at hj
      cases hj
    · rw [List.getElem?_set_ne ij] at hj
      obtain ⟨u, hu, r⟩ := c.fro j e hj
      exact ⟨u, hu, RelD.mono (fun _ h => h) ex _ _ r⟩
  · by_cases ij : i = j
    · subst ij
      rw [List.getElem?_set_self hi] at hj
      cases hj
      exact ⟨_, hv, a, rfl, nf, h0, nd, hn⟩
    · rw [List.getElem?_set_ne ij] at hj
      obtain ⟨u, hu, b, rfl, nfb, h0b, ndb, ocb⟩ := c.own j e hj
      have hb : b ≠ a := fun z => by
        subst z
        exact ij (c.sep i j d e _ h hj hv hu)
      exact ⟨_, hu, b, rfl, nfb, h0b, ndb, ocb.mono (fun _ h => h) ex fun u h => by rw [upd_ne hb]; exact h⟩
  · have key : ∀ (m : Nat) (e : D), (env.set i (some (true, d')))[m]? = some (some (true, e)) → ∃ e', env[m]? = some (some (true, e')) := fun m e hm => by
      by_cases im : i = m
      · subst im; exact ⟨d, h⟩
      · rw [List.getElem?_set_ne im] at hm; exact ⟨e, hm⟩
    obtain ⟨e', h1⟩ := key j e h1
    obtain ⟨f', h2⟩ := key k f h2
    exact c.sep j k e' f' u h1 h2 h3 h4
theorem s3_append (i : Nat) {x : Str} {px : Pos} {apos cpos : Pos} (he : PE X e (T3 M fe)) (hi : X.N[i]? = some x := by rfl) (hv : Vis X.env.scope x := by first | exact Or.inl rfl | exact Or.inr (Or.inl rfl) | exact Or.inr (Or.inr rfl)) (hd : (x == ("__debug__" : Str)) = false := by decide) (hcd : (x == ("__classdict__" : Str)) = false := by decide)
    (hK : M.K = X.K := by rfl) (hse : starEach [e] X.env = (false, eval e X.env) :: starEach [] X.env := by rfl)
    (hbase : attributeBase (.Name x px) "append" X.env (eval (.Name x px) X.env) = eval (.Name x px) X.env := by rfl)
    (hfew : ((backTo cpos (starEach [e] X.env)).all (fun x => !x.1) && (backToKw cpos (keywordEach [] X.env)).all (fun x => x.1.isSome)
      && decide ([e].length + ([] : List Keyword).length + (if ([] : List Keyword).isEmpty then 0 else 1) < 30)) = true := by rfl)
    (hline : (apos.endLine == cpos.line) = true := by rfl) (hplain : (backTo cpos (starEach [] X.env)).any (·.1) = false := by rfl)
    (hs : swapsWith (.Call (.Attribute (.Name x px) "append" apos) [e] [] cpos) none pos.line X.env = pure false := by rfl) :
    PS X (.Expr (.Call (.Attribute (.Name x px) "append" apos) [e] [] cpos) pos) (TS3 M (sapp i fe)) := by
  refine PSi (ps_expr (pe_bm PySem.F.plainAttrs_list PySem.F.slot_list_append PySem.F.type_list_append mt_append (pe_var hi hv hd hcd) (pa_cons he pa_nil hse) hbase hfew hline hse hplain) hs) fun D0 σ H h => ?_
  obtain ⟨B, F, env, w, c, p⟩ := h
  unfold sapp at p
  split at p
  · rename_i ds0 h0
    obtain ⟨v, hv, a, rfl, nf, hz, nd, xs, hl, rx⟩ := c.own i _ h0
    refine ⟨_, hv, .inl ⟨rfl, xs, .of hl⟩, B, F, env, w, c, ?_⟩
    cases ef : fe env w with
    | bad => rw [ef] at p; exact p
    | ok d w' =>
      rw [ef] at p
      dsimp only at p
      intro F' H' u g r
      have c' := c.grow g
      have hl' := g.keep a _ hl nd
      · split at p
        · rename_i hlen
          have rx' := RelDs.mono g.sub g.ext _ _ rx
          refine ⟨a, xs, u, rfl, rfl, hl', by rw [SL_eq, ← rx'.length]; exact hlen, ?_⟩
          have nf' : ¬ F' a := fun z => nf (g.old a z (by rw [hl]; exact fun z => by cases z))
          have ex : Ext F' H' (upd H' a (.lst (xs ++ [u]))) := .put nf' (fun xs z => by rw [hl'] at z; cases z)
          obtain ⟨c2, m2⟩ := c'.put (o := .lst (xs ++ [u])) (d' := .lst (ds0 ++ [d])) h0 hv ⟨xs ++ [u], upd_same, (RelDs.mono (fun _ h => h) ex _ _ rx').append (RelDs.one (RelD.mono (fun _ h => h) ex _ _ r))⟩
          exact p F' σ _ c2 (g.mono.trans m2)
        · exact p.elim
  · exact p.elim
/-- a list display, as a new object -/
theorem e3n_lst {es : List Expr} {fs : M3 (List D)} (h : PA X es (T3a M fs)) : PE X (.List es pos) (T3n M (mlst fs)) := by
  refine PEi (pe_lst h) fun σ H Q h => ?_
  obtain ⟨B, F, env, w, c, p⟩ := h
  refine ⟨B, F, env, w, c, ?_⟩
  unfold mlst M3.bind at p
  cases ef : fs env w with
  | bad => rw [ef] at p; exact p
  | ok ds w' =>
    rw [ef] at p
    dsimp only at p
    intro F' H' vs g r
    split at p
    · rename_i hl
      refine ⟨by rw [SL_eq, ← r.length]; exact hl, fun a ha => ?_⟩
      have c' := c.grow g
      have nf : ¬ F' a := fun z => c'.gd.dom a z ha
      have nd := fresh_dk c'.gd.world ha
      have ex : Ext F' H' (upd H' a (.lst vs)) := fun b o f e => by rw [upd_ne (ne_of_none e ha)]; exact e
      refine p F' _ a ⟨g.sub, fun b o e n => by rw [upd_ne (ne_of_none (g.keep b o e n) ha)]; exact g.keep b o e n, g.old, fun b f => ?_, fun q e => ?_, fun b xs e => by rw [upd_ne (ne_of_none (g.tups b xs e) ha)]; exact g.tups b xs e⟩ nf ?_ nd ⟨vs, upd_same, RelDs.mono (fun _ h => h) ex _ _ r⟩
      · have hb : b ≠ a := fun z => nf (z ▸ f)
        rw [upd_ne hb]; exact g.dom b f
      · obtain ⟨h1, h2, h3, h4, h5⟩ := g.world q e
        exact ⟨by rw [upd_ne (ne_of_none h1 ha)]; exact h1, by rw [upd_ne (ne_of_none h2 ha)]; exact h2, h3, h4, h5⟩
      · cases q : H a with
        | none => rfl
        | some o => rw [g.keep a o q nd] at ha; cases ha
    · exact p.elim
end
end L3

set_option Elab.async false
set_option linter.all false
set_option maxRecDepth 100000
set_option maxHeartbeats 4000000
/-! L3Call: defs and their calls. A def is known by the plain function that it computes. -/
namespace L3
open PySem PySem.Spec PyProof.Rows L2

/-- what a def computes: of its arguments and the deck, a result and the deck behind it -/
abbrev Fun3 := List D → Wd → R3 D
def Sp3 (M : Ms) (n : Nat) (m : Fun3) : Sp := fun vs H Q _ => ∃ (F : FS) (w : Wd) (ds : List D), (∀ b, F b → H b ≠ none) ∧ WRel M F w H ∧ RelDs M F H ds vs ∧ ds.length = n ∧ Post M F H (m ds w) Q

section
variable (P : Program) (w : World) (K : PySem.W.Frag) (mg : Str → Option Value) (base : Heap)
/-- a def keeps a promise wherever k rooms are left and no repr is running -/
def FnG (k : Nat) (f : Addr) (fd : FuncData) (ps : List Str) (sp : Sp) : Prop :=
  ∀ (A : Around) (outer : List Env) (s : Shared) (H : Hp) (args : Args) (us : List Value) (vs : List V) (Q : VK), Room k A → A.guards = some [] → Env0 P w K mg base A outer s H → vs.length = ps.length →
    BindsTo s fd args (ps.zip us) → Vals vs us → sp vs H Q E0 → codeAny (model P w) A (.call (.ref f) args) (CR CX0 outer P w H s Q E0) s
/-- .. called with positional arguments -/
def PosG (k : Nat) (f : Addr) (sp : Sp) : Prop :=
  ∀ (A : Around) (outer : List Env) (s : Shared) (H : Hp) (us : List Value) (vs : List V) (Q : VK), Room k A → A.guards = some [] → Env0 P w K mg base A outer s H → Vals vs us → sp vs H Q E0 →
    codeAny (model P w) A (.call (.ref f) ⟨us, []⟩) (CR CX0 outer P w H s Q E0) s
/-- .. called with keywords alone, ks; g puts their values in order -/
def KwG (k : Nat) (f : Addr) (ks : List Str) (g : {α : Type} → List α → List α) (sp : Sp) : Prop :=
  ∀ (A : Around) (outer : List Env) (s : Shared) (H : Hp) (us : List Value) (vs : List V) (Q : VK), Room k A → A.guards = some [] → Env0 P w K mg base A outer s H → Vals vs us → vs.length = ks.length → sp (g vs) H Q E0 →
    codeAny (model P w) A (.call (.ref f) ⟨[], ks.zip us⟩) (CR CX0 outer P w H s Q E0) s
end
section
variable {P : Program} {w : World} {K : PySem.W.Frag} {mg : Str → Option Value} {base : Heap}
theorem PosG.mono {j k : Nat} {f : Addr} {sp : Sp} (h : PosG P w K mg base j f sp) (hjk : j ≤ k) : PosG P w K mg base k f sp := fun A outer s H us vs Q hr => h A outer s H us vs Q (hr.mono hjk)
theorem KwG.mono {j k : Nat} {f : Addr} {sp : Sp} {ks : List Str} {g : {α : Type} → List α → List α} (h : KwG P w K mg base j f ks g sp) (hjk : j ≤ k) : KwG P w K mg base k f ks g sp := fun A outer s H us vs Q hr => h A outer s H us vs Q (hr.mono hjk)
theorem FnG.pos {k : Nat} {f : Addr} {fd : FuncData} {ps : List Str} {sp : Sp} (h : FnG P w K mg base k f fd ps sp) (len : ∀ vs H Q E, sp vs H Q E → vs.length = ps.length) (hb : Binds K fd ps []) : PosG P w K mg base k f sp := by
  intro A outer s H us vs Q hr hg e0 rv hs
  have hl := len _ _ _ _ hs
  have KX : K.In s.heap := e0.mod.kin.keeps fun b o e => (e0.bs b o e).1
  have hz := hb s us KX (by rw [List.append_nil, ← rv.length]; exact hl)
  rw [List.append_nil] at hz
  exact h A outer s H ⟨us, []⟩ us vs Q hr hg e0 hl hz rv hs
theorem FnG.kw {k : Nat} {f : Addr} {fd : FuncData} {ps ks : List Str} {sp : Sp} {g : {α : Type} → List α → List α} (h : FnG P w K mg base k f fd ps sp) (len : ∀ vs H Q E, sp vs H Q E → vs.length = ps.length)
    (hb : ∀ (s : Shared) (us : List Value), us.length = ks.length → BindsTo s fd ⟨[], ks.zip us⟩ (ps.zip (g us))) (hr : ∀ {vs : List V} {us : List Value}, Vals vs us → Vals (g vs) (g us)) : KwG P w K mg base k f ks g sp := by
  intro A outer s H us vs Q hrm hg e0 rv hlv hs
  exact h A outer s H ⟨[], ks.zip us⟩ (g us) (g vs) Q hrm hg e0 (len _ _ _ _ hs) (hb s us (by rw [← rv.length]; exact hlv)) (hr rv) hs
theorem FnR.posG {k : Nat} {f : Addr} {sp : Sp} (h : FnR P w K mg base CX0 k f sp) : PosG P w K mg base k f sp := fun A outer s H us vs Q hr _ e0 rv hs => h A outer s H us vs Q E0 hr e0 rv hs

/-- a body keeps its def's promise (guards told) -/
theorem fnG_of {k : Nat} {x qual : Str} {st : Stmt} {f : Addr} {fd : FuncData} {N ps : List Str} {sp : Sp} (Fn : Fun K x qual st f fd) (S : FnScope N ps (defScope st))
    (hbody : ∀ (cdv : Value) (A : Around) (outer : List Env) (s : Shared) (H : Hp) (vs : List V) (Q : VK), Room k (A.deeper (envOfC qual (defScope st) s.heap.objs.size f cdv)) → A.guards = some [] → sp vs H Q E0 →
      ∃ t, PSs (cxOf CX0 P w K mg base N qual (defScope st) f cdv A outer s H E0).nox (defBody st) t ∧ t { nx := fun _ H' => Q .non H', rt := Q } (start N vs) H) : FnG P w K mg base (k + 1) f fd ps sp := by
  obtain ⟨oc, od, kV, doc, pm, an, cdv, ct, osl, efd, look, code⟩ := Fn.ex
  subst efd
  intro A outer s H args us vs Q room gd e0 lenV bind rel prom
  have inK : K.In s.heap := e0.mod.kin.keeps fun b o e => (e0.bs b o e).1
  have unlimited : s.heap.NoLimit := e0.mod.nolimit.keeps fun b o e => (e0.bs b o e).1
  have kinds : ∀ y ∈ ps.zip us, (defScope st).names.lookup y.1 = some .local ∨ ((defScope st).names.lookup y.1 = some .cell ∧ ((cellsFrom (s.heap.objs.size + 1) (defScope st).names []).lookup y.1).isSome = true) := by
    rintro ⟨n, v⟩ hy
    cases S.par n (List.of_mem_zip hy).1 with
    | inl q => exact .inl q
    | inr q => exact .inr ⟨q, PySem.W.cellsFrom_some _ _ _ (.inl q)⟩
  refine codeAny_call_function room.depth (inK _ _ look) rfl S.co S.gen rfl (PySem.W.codeRec_of inK code) (bind _ _ _ _ (wpAny_newFunctionEnv_cells S.kind kinds fun env eenv s1 x1 => ?_))
  subst eenv
  refine ⟨unlimited.keeps x1.toInCall.keep, codeAny_func ?_⟩
  obtain ⟨t, ht, hq⟩ := hbody cdv A outer s H vs Q (room.deeper _) gd prom
  have I : Inv (cxOf CX0 P w K mg base N qual (defScope st) f cdv A outer s H E0) [] (start N vs) H s1 := inv_start S room.hd e0 lenV rel x1
  refine wpAny_mono (ht.nox.run [] s1 (start N vs) H _ I hq) (fun fl s' hs => ?_) fun e s' hs => hs
  cases fl with
  | ret u =>
    obtain ⟨v, σ', H', J, rv, q⟩ := hs
    exact ⟨v, H', J.os, J.bare, J.base, J.hok, rv, q⟩
  | next =>
    obtain ⟨σ', H', J, q⟩ := hs
    exact ⟨V.non, H', J.os, J.bare, J.base, J.hok, rfl, q⟩
  | brk => exact hs.choose_spec.choose_spec.2.elim
  | cont => exact hs.choose_spec.choose_spec.2.elim
end

/-! ### a body as a plain function -/
def env0 (n : Nat) (ds : List D) : Env3 := ds.map (fun d => some (false, d)) ++ List.replicate (n - ds.length) none
def runS : S3 → R3 D
  | .nx _ w => .ok .non w
  | .ret d w => .ok d w
  | _ => .bad
/-- what a body of n names computes -/
def defM (n : Nat) (g : St3) : Fun3 := fun ds w => runS (g (env0 n ds) w)
section
variable {P : Program} {w : World} {K : PySem.W.Frag} {mg : Str → Option Value} {base : Heap} {M : Ms}
theorem env0_some {n : Nat} {ds : List D} {i : Nat} {p : Bool × D} (h : (env0 n ds)[i]? = some (some p)) : ∃ d, ds[i]? = some d ∧ p = (false, d) := by
  unfold env0 at h
  by_cases hi : i < ds.length
  · rw [List.getElem?_append_left (by simpa using hi), List.getElem?_map] at h
    cases e : ds[i]? with
    | none => rw [e] at h; cases h
    | some d => rw [e] at h; cases h; exact ⟨d, rfl, rfl⟩
  · rw [List.getElem?_append_right (by simpa using hi), List.getElem?_replicate] at h
    split at h <;> cases h
theorem start_some {N : List Str} {vs : List V} {i : Nat} {v : V} (h : vs[i]? = some v) : (L2.start N vs)[i]? = some (some v) := by
  have hi : i < vs.length := (List.getElem?_eq_some_iff.mp h).1
  unfold L2.start
  rw [List.getElem?_append_left (by simpa using hi), List.getElem?_map, h]
  rfl
theorem cor_start {N : List Str} {F : FS} {H : Hp} {wd : Wd} {ds : List D} {vs : List V} (hd : ∀ b, F b → H b ≠ none) (hw : WRel M F wd H) (r : RelDs M F H ds vs) (hN : ds.length ≤ N.length) : Cor M ⟨H, F⟩ F (env0 N.length ds) wd (start N vs) H where
  gd := ⟨hd, hw, fun _ _ e _ => e, fun _ f _ => f, fun _ f => f, fun _ _ e => e⟩
  len := by
    unfold L2.start env0
    rw [List.length_append, List.length_append, List.length_map, List.length_map, List.length_replicate, List.length_replicate, r.length]
  fro := fun i d h => by
    obtain ⟨d', e, z⟩ := env0_some h
    cases z
    obtain ⟨v, q, rv⟩ := r.get e
    exact ⟨v, start_some q, rv⟩
  own := fun i d h => by
    obtain ⟨d', e, z⟩ := env0_some h
    cases z
  sep := fun i j d e v h1 h2 => by
    obtain ⟨d', e, z⟩ := env0_some h1
    cases z
theorem ts_start {N : List Str} {n : Nat} {g : St3} {vs : List V} {H : Hp} {Q : VK} {E : XK} (hN : n ≤ N.length) (h : Sp3 M n (defM N.length g) vs H Q E) : TS3 M g { nx := fun _ H' => Q .non H', rt := Q } (start N vs) H := by
  obtain ⟨F, wd, ds, hd, hw, r, hl, p⟩ := h
  refine ⟨⟨H, F⟩, F, _, wd, cor_start hd hw r (by omega), ?_⟩
  unfold defM at p
  cases eg : g (env0 N.length ds) wd with
  | nx e w' =>
    rw [eg] at p
    exact fun F' σ' H' c _ => p F' H' .non c.gd.whole rfl
  | ret d w' =>
    rw [eg] at p
    exact fun F' H' v g _ r => p F' H' v g.whole r
  | ct e w' => rw [eg] at p; exact p.elim
  | bk e w' => rw [eg] at p; exact p.elim
  | bad => rw [eg] at p; exact p
theorem sp3_len {n : Nat} {m : Fun3} {vs : List V} {H : Hp} {Q : VK} {E : XK} (h : Sp3 M n m vs H Q E) : vs.length = n := by
  obtain ⟨F, wd, ds, hd, hw, r, hl, p⟩ := h
  rw [← r.length]; exact hl
/-- THE RULE for a def -/
theorem fn3 {k : Nat} {x qual : Str} {st : Stmt} {f : Addr} {fd : FuncData} {N ps : List Str} {g : St3} (Fn : Fun K x qual st f fd) (S : FnScope N ps (defScope st))
    (hbody : ∀ (cdv : Value) (A : Around) (outer : List Env) (s : Shared) (H : Hp), Room k (A.deeper (envOfC qual (defScope st) s.heap.objs.size f cdv)) → A.guards = some [] →
      PSs (cxOf CX0 P w K mg base N qual (defScope st) f cdv A outer s H E0).nox (defBody st) (TS3 M g)) : FnG P w K mg base (k + 1) f fd ps (Sp3 M ps.length (defM N.length g)) := by
  have hN : ps.length ≤ N.length := by have := congrArg List.length S.pre; rw [List.length_take] at this; omega
  exact fnG_of Fn S fun cdv A outer s H vs Q hr hg h => ⟨_, hbody cdv A outer s H hr hg, ts_start hN h⟩
/-- the same computed by another plain function -/
theorem Sp3.imp {n : Nat} {m m' : Fun3} (e : ∀ ds w, ds.length = n → m' ds w ≠ .bad → m ds w = m' ds w) {vs : List V} {H : Hp} {Q : VK} {E : XK} (h : Sp3 M n m' vs H Q E) : Sp3 M n m vs H Q E := by
  obtain ⟨F, wd, ds, hd, hw, r, hl, p⟩ := h
  refine ⟨F, wd, ds, hd, hw, r, hl, ?_⟩
  rw [e ds wd hl (fun z => by rw [z] at p; exact p)]
  exact p
theorem FnG.imp {k : Nat} {f : Addr} {fd : FuncData} {ps : List Str} {sp sp' : Sp} (h : FnG P w K mg base k f fd ps sp) (i : ∀ vs H Q E, sp' vs H Q E → sp vs H Q E) : FnG P w K mg base k f fd ps sp' :=
  fun A outer s H args us vs Q hr hg e0 hl hb rv hs => h A outer s H args us vs Q hr hg e0 hl hb rv (i _ _ _ _ hs)
theorem PosG.imp {k : Nat} {f : Addr} {sp sp' : Sp} (h : PosG P w K mg base k f sp) (i : ∀ vs H Q E, sp' vs H Q E → sp vs H Q E) : PosG P w K mg base k f sp' :=
  fun A outer s H us vs Q hr hg e0 rv hs => h A outer s H us vs Q hr hg e0 rv (i _ _ _ _ hs)
end

/-! ### calls -/
def callM (m : Fun3) (n : Nat) (fs : M3 (List D)) : M3 D := fs.bind fun ds _ w => if ds.length = n then m ds w else .bad
def kwM (m : Fun3) (n : Nat) (g : {α : Type} → List α → List α) (fs : M3 (List D)) : M3 D := fs.bind fun ds _ w => if (g ds).length = n then m (g ds) w else .bad
section
variable {X : Cx} {M : Ms} {x : Str} {p pos : Pos} {e : Expr} {es : List Expr} {kws : List Keyword} {fs : M3 (List D)} {f : Addr} {k n : Nat} {m : Fun3} {sp : Sp} {t : TA}
theorem run_g {pins : List (Addr × Obj)} {σ : Sl} {H : Hp} {s : Shared} {Q : VK} {args : Args} (I : Inv X pins σ H s) (h : codeAny (model X.prog X.w) X.A (.call (.ref f) args) (CR CX0 X.stack X.prog X.w H s Q E0) s) :
    wpAny (model X.prog X.w) X.A (call (.ref f) args.pos args.kw) (EP X pins σ Q) X.xe s := by
  refine wpAny_call (codeAny_mono h fun r s' hq => ?_)
  cases r with
  | error e => exact False.elim hq
  | ok fl =>
    cases fl with
    | ret u => exact I.after hq
    | next => exact False.elim hq
    | brk => exact False.elim hq
    | cont => exact False.elim hq
theorem g_call (G : PosG X.prog X.w X.K X.mg X.base k f sp) (hr : Room k X.A) (hgd : X.A.guards = some []) (hg : Gl X x) (hm : X.mg x = some (.ref f)) (hk : PySem.W.keepIn X.K (.ref f) = true) (ha : PA X (e :: es) t)
    (hdb : (x == ("__debug__" : Str)) = false := by decide) (he : starEach (e :: es) X.env = (false, eval e X.env) :: starEach es X.env := by rfl) (hpl : (backTo pos (starEach es X.env)).any (·.1) = false := by rfl) :
    PE X (.Call (.Name x p) (e :: es) [] pos) (fun σ H Q => t σ H fun vs H1 => sp vs H1 Q E0) := by
  refine ⟨fun pins s σ H Q I h => wpAny_Call_Name_kw (ld_glob I hg hm ?_ hdb)⟩
  refine PySem.W.callWith_K (h₀ := X.base) I.ok.mod.kin hk (thn (ha.run pos pins s σ H _ I h) ?_) he hpl
  intro us s1 ⟨vs, H1, I1, r1, q1⟩
  exact ⟨I1.kIn, run_g (args := ⟨us, []⟩) I1 (G X.A X.stack s1 H1 us vs Q hr hgd I1.env0 r1 q1)⟩
theorem g_call0 (G : PosG X.prog X.w X.K X.mg X.base k f sp) (hr : Room k X.A) (hgd : X.A.guards = some []) (hg : Gl X x) (hm : X.mg x = some (.ref f)) (hk : PySem.W.keepIn X.K (.ref f) = true)
    (hdb : (x == ("__debug__" : Str)) = false := by decide) : PE X (.Call (.Name x p) [] [] pos) (fun σ H Q => sp [] H Q E0) := by
  refine ⟨fun pins s σ H Q I h => wpAny_Call_Name_kw (ld_glob I hg hm ?_ hdb)⟩
  exact PySem.W.callWith_K0 I.kIn hk (run_g (args := ⟨[], []⟩) I (G X.A X.stack s H [] [] Q hr hgd I.env0 .nil h))
theorem g_callK {ks : List Str} {g : {α : Type} → List α → List α} (G : KwG X.prog X.w X.K X.mg X.base k f ks g sp) (hr : Room k X.A) (hgd : X.A.guards = some []) (hg : Gl X x) (hm : X.mg x = some (.ref f)) (hk : PySem.W.keepIn X.K (.ref f) = true) (ha : PK X kws t)
    (hdb : (x == ("__debug__" : Str)) = false := by decide) (hall : (backToKw pos (keywordEach kws X.env)).all (·.1.isSome) = true := by rfl) (hks : (backToKw pos (keywordEach kws X.env)).filterMap (·.1) = ks := by rfl)
    (hpl : ((backTo pos (starEach [] X.env)).any (·.1) || (backToKw pos (keywordEach kws X.env)).any (·.1.isNone)) = false := by rfl) :
    PE X (.Call (.Name x p) [] kws pos) (fun σ H Q => t σ H fun vs H1 => vs.length = ks.length ∧ sp (g vs) H1 Q E0) := by
  refine ⟨fun pins s σ H Q I h => wpAny_Call_Name_kw (ld_glob I hg hm ?_ hdb)⟩
  refine PySem.W.callWith_KW0 (h₀ := X.base) I.ok.mod.kin hk hall (thn (ha.run pos pins s σ H _ I h) ?_) hpl
  intro us s1 ⟨vs, H1, I1, r1, q0, q1⟩
  rw [hks]
  exact ⟨I1.kIn, run_g (args := ⟨[], ks.zip us⟩) I1 (G X.A X.stack s1 H1 us vs Q hr hgd I1.env0 r1 q0 q1)⟩
theorem sp_of {B : Bs} {F : FS} {env : Env3} {w : Wd} {σ : Sl} {H : Hp} {ds : List D} {vs : List V} {Q : VK} (c : Cor M B F env w σ H) (r : RelDs M F H ds vs) (p : Post M F H (if ds.length = n then m ds w else .bad) Q) : Sp3 M n m vs H Q E0 := by
  split at p
  · rename_i hl
    exact ⟨F, w, ds, c.gd.dom, c.gd.world, r, hl, p⟩
  · exact p.elim
theorem e3_call (G : PosG X.prog X.w X.K X.mg X.base k f (Sp3 M n m)) (hr : Room k X.A) (hgd : X.A.guards = some []) (hg : Gl X x) (hm : X.mg x = some (.ref f)) (hk : PySem.W.keepIn X.K (.ref f) = true) (ha : PA X (e :: es) (T3a M fs))
    (hdb : (x == ("__debug__" : Str)) = false := by decide) (he : starEach (e :: es) X.env = (false, eval e X.env) :: starEach es X.env := by rfl) (hpl : (backTo pos (starEach es X.env)).any (·.1) = false := by rfl) :
    PE X (.Call (.Name x p) (e :: es) [] pos) (T3 M (callM m n fs)) := by
  refine PEi (g_call G hr hgd hg hm hk ha hdb he hpl) fun σ H Q h => ?_
  obtain ⟨B, F, env, w, c, p⟩ := h
  exact T3a.mono (T3a.bind' (P := fun r F H => Post M F H r Q) c p (fun _ _ h => h) fun _ _ _ _ _ _ g p => p.grow g) fun vs H1 ⟨F1, w1, ds, g1, c1, r1, p1⟩ => sp_of c1 r1 p1
theorem e3_call0 (G : PosG X.prog X.w X.K X.mg X.base k f (Sp3 M 0 m)) (hr : Room k X.A) (hgd : X.A.guards = some []) (hg : Gl X x) (hm : X.mg x = some (.ref f)) (hk : PySem.W.keepIn X.K (.ref f) = true)
    (hdb : (x == ("__debug__" : Str)) = false := by decide) : PE X (.Call (.Name x p) [] [] pos) (T3 M (callM m 0 anil)) := by
  refine PEi (g_call0 G hr hgd hg hm hk hdb) fun σ H Q h => ?_
  obtain ⟨B, F, env, w, c, p⟩ := h
  exact sp_of (ds := []) c rfl p
theorem PKi {t t' : TA} (h : PK X kws t) (i : ∀ σ H Q, t' σ H Q → t σ H Q) : PK X kws t' := ⟨fun pos pins s σ H Q I q => h.run pos pins s σ H Q I (i _ _ _ q)⟩
theorem e3k_nil : PK X [] (T3a M anil) := PKi pk_nil fun σ H Q h => by
  obtain ⟨B, F, env, w, c, p⟩ := h
  exact p F H [] c.self rfl
theorem e3k_cons {nm : Option Str} {kpos : Pos} {fe : M3 D} (ha : PE X e (T3 M fe)) (hr : PK X kws (T3a M fs)) : PK X (⟨nm, e, kpos⟩ :: kws) (T3a M (acons fe fs)) := by
  refine PKi (pk_cons ha hr) fun σ H Q h => ?_
  obtain ⟨B, F, env, w, c, p⟩ := h
  refine T3.mono (T3.bind' (P := fun r F H => PostA M F H r Q) c p (fun _ _ h => h) fun _ _ _ _ _ _ g p => p.grow g) fun v H1 ⟨F1, w1, d, g1, c1, r1, p1⟩ => ?_
  refine T3a.mono (T3a.bind' (P := fun r F H => PostA M F H r Q) c1 p1 (fun _ _ h => h) fun _ _ _ _ _ _ g p => p.grow g) fun vs H2 ⟨F2, w2, ds, g2, c2, r2, p2⟩ => ?_
  exact p2 F2 H2 _ c2.self ⟨v, vs, rfl, RelD.mono g2.sub g2.ext _ _ r1, r2⟩
theorem e3_callK {ks : List Str} {g : {α : Type} → List α → List α} (G : KwG X.prog X.w X.K X.mg X.base k f ks g (Sp3 M n m)) (hr : Room k X.A) (hgd : X.A.guards = some []) (hg : Gl X x) (hm : X.mg x = some (.ref f)) (hk : PySem.W.keepIn X.K (.ref f) = true) (ha : PK X kws (T3a M fs))
    (hrel : ∀ {F : FS} {H : Hp} {ds : List D} {vs : List V}, RelDs M F H ds vs → RelDs M F H (g ds) (g vs)) (hlen : ∀ ds : List D, (g ds).length = n → ds.length = ks.length)
    (hdb : (x == ("__debug__" : Str)) = false := by decide) (hall : (backToKw pos (keywordEach kws X.env)).all (·.1.isSome) = true := by rfl) (hks : (backToKw pos (keywordEach kws X.env)).filterMap (·.1) = ks := by rfl)
    (hpl : ((backTo pos (starEach [] X.env)).any (·.1) || (backToKw pos (keywordEach kws X.env)).any (·.1.isNone)) = false := by rfl) :
    PE X (.Call (.Name x p) [] kws pos) (T3 M (kwM m n g fs)) := by
  refine PEi (g_callK G hr hgd hg hm hk ha hdb hall hks hpl) fun σ H Q h => ?_
  obtain ⟨B, F, env, w, c, p⟩ := h
  refine T3a.mono (T3a.bind' (P := fun r F H => Post M F H r Q) c p (fun _ _ h => h) fun _ _ _ _ _ _ g p => p.grow g) fun vs H1 ⟨F1, w1, ds, g1, c1, r1, p1⟩ => ?_
  refine ⟨?_, sp_of c1 (hrel r1) p1⟩
  have hl : (g ds).length = n := by
    split at p1
    · assumption
    · exact p1.elim
  rw [← r1.length]; exact hlen ds hl
end
end L3

set_option Elab.async false
set_option linter.all false
set_option maxRecDepth 100000
set_option maxHeartbeats 4000000
/-! L3Deck: the law's deck of numbers: a dict of three texts, its cells a list. -/
namespace L3
open PySem PySem.Spec PyProof.Rows L2

def isDeckAt (env : Env3) (i : Nat) : Bool := match env[i]? with
  | some (some (false, .deck)) => true
  | _ => false
section
variable {M : Ms} {B : Bs} {F : FS} {env : Env3} {w : Wd} {σ : Sl} {H : Hp}
theorem deckAt_of {i : Nat} (h : isDeckAt env i = true) : env[i]? = some (some (false, .deck)) := by
  unfold isDeckAt at h
  split at h
  · assumption
  · cases h
theorem Cor.deck {i : Nat} (c : Cor M B F env w σ H) (h : isDeckAt env i = true) : ∃ p, M.dk = some p ∧ σ[i]? = some (some (.ref p.1)) ∧ H p.1 = some (deckO p.2 w) ∧ H p.2 = some (.lst (w.cells.map V.int)) ∧ ¬ F p.1 ∧ ¬ F p.2 ∧ p.1 ≠ p.2 := by
  obtain ⟨v, hv, p, hp, e⟩ := c.fro i _ (deckAt_of h)
  have hw := c.gd.world p hp
  subst e
  exact ⟨p, hp, hv, hw⟩
/-- the deck's objects are changed -/
theorem Cor.deckPut {p : Addr × Addr} {a : Addr} {o : HO} {w' : Wd} (c : Cor M B F env w σ H) (hp : M.dk = some p) (ha : isDk M a) (hw : WRel M F w' (upd H a o)) : Cor M B F env w' σ (upd H a o) ∧ Mono F H F (upd H a o) := by
  have nf : ¬ F a := fun f => c.gd.world.not f ha
  have nt : ∀ xs, H a ≠ some (.tup xs) := fun xs z => by
    obtain ⟨q, e, rfl | rfl⟩ := ha
    · rw [(c.gd.world q e).1] at z; cases z
    · rw [(c.gd.world q e).2.1] at z; cases z
  have ex : Ext F H (upd H a o) := .put nf nt
  refine ⟨⟨⟨fun b f => ?_, hw, fun b u e n => ?_, c.gd.old, c.gd.sub, tups_put c.gd.tups nt⟩, c.len, fun j e hj => ?_, fun j e hj => ?_, c.sep⟩, fun _ h => h, ex⟩
  · have hb : b ≠ a := fun z => nf (z ▸ f)
    rw [upd_ne hb]; exact c.gd.dom b f
  · have hb : b ≠ a := fun z => n (z ▸ ha)
    rw [upd_ne hb]; exact c.gd.keep b u e n
  · obtain ⟨u, hu, r⟩ := c.fro j e hj
    exact ⟨u, hu, RelD.mono (fun _ h => h) ex _ _ r⟩
  · obtain ⟨u, hu, b, rfl, nfb, h0b, ndb, ocb⟩ := c.own j e hj
    have hb : b ≠ a := fun z => ndb (z ▸ ha)
    exact ⟨_, hu, b, rfl, nfb, h0b, ndb, ocb.mono (fun _ h => h) ex fun u h => by rw [upd_ne hb]; exact h⟩
theorem deck_keys (c : Addr) (w : Wd) : valV ([((.inr "cells" : Key), .ref c), ((.inr "blend" : Key), .int w.blend), ((.inr "draws" : Key), .int w.draws)] : List (Key × V)) (.inr "cells") = some (.ref c) ∧
    valV ([((.inr "cells" : Key), .ref c), ((.inr "blend" : Key), .int w.blend), ((.inr "draws" : Key), .int w.draws)] : List (Key × V)) (.inr "blend") = some (.int w.blend) ∧
    valV ([((.inr "cells" : Key), .ref c), ((.inr "blend" : Key), .int w.blend), ((.inr "draws" : Key), .int w.draws)] : List (Key × V)) (.inr "draws") = some (.int w.draws) := by
  have n1 : ¬ ((Sum.inr ("cells" : Str) : Key) = Sum.inr ("blend" : Str)) := by intro h; exact absurd (Sum.inr.inj h) (by decide +kernel)
  have n2 : ¬ ((Sum.inr ("cells" : Str) : Key) = Sum.inr ("draws" : Str)) := by intro h; exact absurd (Sum.inr.inj h) (by decide +kernel)
  have n3 : ¬ ((Sum.inr ("blend" : Str) : Key) = Sum.inr ("draws" : Str)) := by intro h; exact absurd (Sum.inr.inj h) (by decide +kernel)
  refine ⟨valV_pos rfl, ?_, ?_⟩
  · rw [valV_neg n1, valV_pos rfl]
  · rw [valV_neg n2, valV_neg n3, valV_pos rfl]
theorem deck_put (c : Addr) (w : Wd) (n : Int) : putK ([((.inr "cells" : Key), .ref c), ((.inr "blend" : Key), .int w.blend), ((.inr "draws" : Key), .int w.draws)] : List (Key × V)) (.inr "draws") (.int n) =
    [((.inr "cells" : Key), .ref c), ((.inr "blend" : Key), .int w.blend), ((.inr "draws" : Key), .int n)] := by
  have n2 : ¬ ((Sum.inr ("cells" : Str) : Key) = Sum.inr ("draws" : Str)) := by intro h; exact absurd (Sum.inr.inj h) (by decide +kernel)
  have n3 : ¬ ((Sum.inr ("blend" : Str) : Key) = Sum.inr ("draws" : Str)) := by intro h; exact absurd (Sum.inr.inj h) (by decide +kernel)
  unfold putK
  rw [if_pos (by simp)]
  simp only [List.map_cons, List.map_nil, if_neg n2, if_neg n3, if_true]
end
def dkInt (i : Nat) (f : Wd → Int) : M3 D := fun env w => if isDeckAt env i then .ok (.int (f w)) w else .bad
section
variable {X : Cx} {M : Ms} {pos p1 p2 cpos apos : Pos} {j : Nat} {o e : Expr} {es : List Expr} {fe : M3 D}
/-- the reading of deck["cells"], for what asks more of it -/
theorem tcells {i : Nat} {σ : Sl} {H : Hp} {Q : VK} {p : Addr × Addr} {w : Wd} (hv : σ[i]? = some (some (.ref p.1))) (hd : H p.1 = some (deckO p.2 w)) (q : Q (.ref p.2) H) : tDGet (tVar i) (tC (.str "cells")) σ H Q :=
  ⟨_, hv, p.1, .ref p.2, rfl, by rw [← (deck_keys p.2 w).1]; exact DGet.k (k := .inr "cells") hd, q⟩
theorem e3_draws {i : Nat} (hu : X.A.units + 1 < cLine) (ho : PE X o (tVar i)) : PE X (.Subscript o (.Constant (.str "draws") j p1) pos) (T3 M (dkInt i (·.draws))) := by
  refine PEi (pe_dget hu ho pe_str (fun _ _ => rfl)) fun σ H Q h => ?_
  obtain ⟨B, F, env, w, c, p⟩ := h
  unfold dkInt at p
  split at p
  · rename_i h
    obtain ⟨q, hq, hv, h1, h2, _⟩ := c.deck h
    exact ⟨_, hv, q.1, .int w.draws, rfl, by rw [← (deck_keys q.2 w).2.2]; exact DGet.k (k := .inr "draws") h1, Post.val c p rfl⟩
  · exact p.elim
theorem e3_blend {i : Nat} (hu : X.A.units + 1 < cLine) (ho : PE X o (tVar i)) : PE X (.Subscript o (.Constant (.str "blend") j p1) pos) (T3 M (dkInt i (·.blend))) := by
  refine PEi (pe_dget hu ho pe_str (fun _ _ => rfl)) fun σ H Q h => ?_
  obtain ⟨B, F, env, w, c, p⟩ := h
  unfold dkInt at p
  split at p
  · rename_i h
    obtain ⟨q, hq, hv, h1, h2, _⟩ := c.deck h
    exact ⟨_, hv, q.1, .int w.blend, rfl, by rw [← (deck_keys q.2 w).2.1]; exact DGet.k (k := .inr "blend") h1, Post.val c p rfl⟩
  · exact p.elim
/-- deck["draws"] = e -/
def sDraws (i : Nat) (fe : M3 D) : St3 := fun env w => match fe env w with
  | .ok (.int n) w' => if isDeckAt env i then .nx env { w' with draws := n } else .bad
  | _ => .bad
theorem s3_draws {i : Nat} (hu : X.A.units + 1 < cLine) (ho : PE X o (tVar i)) (he : PE X e (T3 M fe)) (hs : swapsWith e (some (.Subscript o (.Constant (.str "draws") j p1) p2)) pos.line X.env = pure false := by rfl) :
    PS X (.Assign [.Subscript o (.Constant (.str "draws") j p1) p2] e pos) (TS3 M (sDraws i fe)) := by
  refine PSi (ps_dput hu ho pe_str he hs) fun D0 σ H h => ?_
  obtain ⟨B, F, env, w, c, p⟩ := h
  refine ⟨B, F, env, w, c, ?_⟩
  unfold sDraws at p
  cases ef : fe env w with
  | bad => rw [ef] at p; exact p
  | ok d w' =>
    rw [ef] at p
    cases d with
    | int n =>
      dsimp only at p
      intro F' H' v g r
      have r : v = .int n := r
      subst r
      have c' := c.grow g
      split at p
      · rename_i h
        obtain ⟨q, hq, hv, h1, h2, f1, f2, ne⟩ := c'.deck h
        refine ⟨_, hv, q.1, upd H' q.1 (deckO q.2 { w' with draws := n }), rfl, ?_, ?_⟩
        · have := DPut.k (k := (.inr "draws" : Key)) (v := .int n) h1 (by rw [sizeLine_eq]; show 3 < 16777216; decide)
          rw [deck_put] at this
          exact this
        · obtain ⟨c2, m2⟩ := c'.deckPut (a := q.1) (o := deckO q.2 { w' with draws := n }) (w' := { w' with draws := n }) hq ⟨q, hq, .inl rfl⟩ (fun q' e => by
            rw [hq] at e; cases e
            exact ⟨upd_same, by rw [upd_ne ne.symm]; exact h2, f1, f2, ne⟩)
          exact p F' σ _ c2 (g.mono.trans m2)
      · exact p.elim
    | _ => exact p.elim
/-- deck["cells"] != [] -/
def tCells (i : Nat) : M3 Bool := fun env w => if isDeckAt env i && decide (w.cells.length ≤ 1000) then .ok (!w.cells.isEmpty) w else .bad
theorem dp_ints {K : PySem.W.Frag} {H : Hp} : ∀ ns : List Int, DpAll K H (ns.map V.int) (ns.map PyData.int)
  | [] => .nil
  | n :: r => .cons (.int n) (dp_ints r)
theorem shaped_ints (ns : List Int) : SeqAt.shaped (.list (ns.map PyData.int)) = true := by
  have h1 : ∀ l : List Int, PyData.canLayAll0 (l.map PyData.int) = true := by
    intro l
    induction l with
    | nil => rfl
    | cons n r ih => simp only [List.map_cons, PyData.canLayAll0, ih, PyData.canLay0, Bool.and_self]
  have h2 : ∀ l : List Int, PyData.depthAll (l.map PyData.int) = 0 := by
    intro l
    induction l with
    | nil => rfl
    | cons n r ih => simp only [List.map_cons, PyData.depthAll, ih, PyData.depth]; rfl
  unfold SeqAt.shaped
  simp only [PyData.canLay0, h1, PyData.depth, h2]
  rfl
theorem e3_cells {i : Nat} (hu : X.A.units + 1 < cLine) (hu2 : X.A.units + 64 < cLine) (ho : PE X o (tVar i)) : PT X (.Compare (.Subscript o (.Constant (.str "cells") j p1) p2) [.NotEq] [.List [] apos] pos) (T3t M (tCells i)) := by
  refine PTi (pt_cmpR (op_neD hu2) (pe_dget hu ho pe_str (fun _ _ => rfl)) (pe_lst pa_nil) (nomark _)) fun σ H Q h => ?_
  obtain ⟨B, F, env, w, c, p⟩ := h
  unfold tCells at p
  split at p
  · rename_i h
    rw [Bool.and_eq_true] at h
    obtain ⟨q, hq, hv, h1, h2, f1, f2, ne⟩ := c.deck h.1
    refine tcells hv h1 ⟨by decide, fun a ha => ?_⟩
    have na1 := ne_of_none h1 ha
    have na2 := ne_of_none h2 ha
    refine ⟨.list (w.cells.map PyData.int), .list [], ?_, ?_, shaped_ints _, rfl, _, rfl, ?_⟩
    · exact .lst (.of (by rw [upd_ne na2]; exact h2)) (dp_ints _)
    · exact .lst (.of upd_same) .nil
    · have g : Grow M F H F w (upd H a (.lst [])) := by
        refine ⟨fun _ h => h, fun b o e n => by rw [upd_ne (ne_of_none e ha)]; exact e, fun _ f _ => f, fun b f => ?_, fun q' e => ?_, fun b xs e => by rw [upd_ne (ne_of_none e ha)]; exact e⟩
        · have hb : b ≠ a := fun z => c.gd.dom b f (z ▸ ha)
          rw [upd_ne hb]; exact c.gd.dom b f
        · obtain ⟨k1, k2, k3, k4, k5⟩ := c.gd.world q' e
          exact ⟨by rw [upd_ne (ne_of_none k1 ha)]; exact k1, by rw [upd_ne (ne_of_none k2 ha)]; exact k2, k3, k4, k5⟩
      have z := p F _ g
      have e : (!PyData.eqv (.list (w.cells.map PyData.int)) (.list [])) = !w.cells.isEmpty := by
        cases w.cells with
        | nil => rfl
        | cons n r => rfl
      rw [e]
      exact z
  · exact p.elim
/-- x = deck["cells"].pop() -/
def sPop (i k : Nat) : St3 := fun env w => if isDeckAt env i && decide (k < env.length) then (match w.cells.getLast? with
  | some n => .nx (env.set k (some (false, .int n))) { w with cells := w.cells.dropLast }
  | none => .bad) else .bad
theorem s3_pop {i k : Nat} {x : Str} {px : Pos} (hN : X.N.Nodup) (hu : X.A.units + 1 < cLine) (ho : PE X o (tVar i)) (hK : M.K = X.K := by rfl) (hi : X.N[k]? = some x := by rfl) (hx : Loc X.env.scope x := by first | exact Or.inl rfl | exact Or.inr rfl)
    (hbase : attributeBase (.Subscript o (.Constant (.str "cells") j p1) p2) "pop" X.env (eval (.Subscript o (.Constant (.str "cells") j p1) p2) X.env) = eval (.Subscript o (.Constant (.str "cells") j p1) p2) X.env := by rfl) (hline : (apos.endLine == cpos.line) = true := by rfl)
    (hs : swapsWith (.Call (.Attribute (.Subscript o (.Constant (.str "cells") j p1) p2) "pop" apos) [] [] cpos) (some (.Name x px)) pos.line X.env = pure false := by rfl)
    (hf : X.fn x = true ∨ X.env.scope.names.lookup x = some .local := by first | exact .inl rfl | exact .inr rfl | assumption) :
    PS X (.Assign [.Name x px] (.Call (.Attribute (.Subscript o (.Constant (.str "cells") j p1) p2) "pop" apos) [] [] cpos) pos) (TS3 M (sPop i k)) := by
  refine PSi (ps_set hN hi hx (pe_bm0 PySem.F.plainAttrs_list PySem.F.slot_list_pop PySem.F.type_list_pop mt_pop (pe_dget hu ho pe_str (fun _ _ => rfl)) hbase hline) hs hf) fun D0 σ H h => ?_
  obtain ⟨B, F, env, w, c, p⟩ := h
  unfold sPop at p
  split at p
  · rename_i h
    rw [Bool.and_eq_true] at h
    obtain ⟨q, hq, hv, h1, h2, f1, f2, ne⟩ := c.deck h.1
    cases el : w.cells.getLast? with
    | none => rw [el] at p; exact p.elim
    | some n =>
      rw [el] at p
      refine tcells hv h1 ⟨.inl ⟨rfl, _, .of h2⟩, q.2, w.cells.map V.int, .int n, rfl, rfl, h2, ?_, ?_⟩
      · rw [List.getLast?_eq_getElem?] at el
        rw [List.length_map, List.getElem?_map, el]
        rfl
      · obtain ⟨c2, m2⟩ := c.deckPut (a := q.2) (o := .lst (w.cells.map V.int).dropLast) (w' := { w with cells := w.cells.dropLast }) hq ⟨q, hq, .inr rfl⟩ (fun q' e => by
          rw [hq] at e; cases e
          exact ⟨by rw [upd_ne ne]; exact h1, by rw [upd_same]; show some (HO.lst (List.map V.int w.cells).dropLast) = some (HO.lst (List.map V.int w.cells.dropLast)); rw [List.map_dropLast], f1, f2, ne⟩)
        exact p F _ _ (c2.setF (d := .int n) rfl k) m2
  · exact p.elim
/-- deck["cells"].append(e) -/
def sPush (i : Nat) (fe : M3 D) : St3 := fun env w => if isDeckAt env i then (match fe env w with
  | .ok (.int n) w' => if w'.cells.length < 1000 then .nx env { w' with cells := w'.cells ++ [n] } else .bad
  | _ => .bad) else .bad
theorem s3_push {i : Nat} (hu : X.A.units + 1 < cLine) (ho : PE X o (tVar i)) (he : PE X e (T3 M fe)) (hse : starEach [e] X.env = (false, eval e X.env) :: starEach [] X.env := by rfl)
    (hbase : attributeBase (.Subscript o (.Constant (.str "cells") j p1) p2) "append" X.env (eval (.Subscript o (.Constant (.str "cells") j p1) p2) X.env) = eval (.Subscript o (.Constant (.str "cells") j p1) p2) X.env := by rfl)
    (hfew : ((backTo cpos (starEach [e] X.env)).all (fun x => !x.1) && (backToKw cpos (keywordEach [] X.env)).all (fun x => x.1.isSome)
      && decide ([e].length + ([] : List Keyword).length + (if ([] : List Keyword).isEmpty then 0 else 1) < 30)) = true := by rfl)
    (hline : (apos.endLine == cpos.line) = true := by rfl) (hplain : (backTo cpos (starEach [] X.env)).any (·.1) = false := by rfl)
    (hs : swapsWith (.Call (.Attribute (.Subscript o (.Constant (.str "cells") j p1) p2) "append" apos) [e] [] cpos) none pos.line X.env = pure false := by rfl) :
    PS X (.Expr (.Call (.Attribute (.Subscript o (.Constant (.str "cells") j p1) p2) "append" apos) [e] [] cpos) pos) (TS3 M (sPush i fe)) := by
  refine PSi (ps_expr (pe_bm PySem.F.plainAttrs_list PySem.F.slot_list_append PySem.F.type_list_append mt_append (pe_dget hu ho pe_str (fun _ _ => rfl)) (pa_cons he pa_nil hse) hbase hfew hline hse hplain) hs) fun D0 σ H h => ?_
  obtain ⟨B, F, env, w, c, p⟩ := h
  unfold sPush at p
  split at p
  · rename_i h
    obtain ⟨q, hq, hv, h1, h2, f1, f2, ne⟩ := c.deck h
    refine tcells hv h1 ⟨.inl ⟨rfl, _, .of h2⟩, B, F, env, w, c, ?_⟩
    cases ef : fe env w with
    | bad => rw [ef] at p; exact p.elim
    | ok d w' =>
      rw [ef] at p
      intro F' H' v g r
      cases d with
      | int n =>
        have r : v = .int n := r
        subst r
        dsimp only at p
        have c' := c.grow g
        obtain ⟨k1, k2, k3, k4, k5⟩ := c'.gd.world q hq
        split at p
        · rename_i hl
          refine ⟨q.2, _, .int n, rfl, rfl, k2, by rw [List.length_map]; exact Nat.lt_trans hl (by decide), ?_⟩
          obtain ⟨c2, m2⟩ := c'.deckPut (a := q.2) (o := .lst (w'.cells.map V.int ++ [.int n])) (w' := { w' with cells := w'.cells ++ [n] }) hq ⟨q, hq, .inr rfl⟩ (fun q' e => by
            rw [hq] at e; cases e
            exact ⟨by rw [upd_ne ne]; exact k1, by rw [upd_same]; show some (HO.lst (List.map V.int w'.cells ++ [V.int n])) = some (HO.lst (List.map V.int (w'.cells ++ [n]))); rw [List.map_append]; rfl, k3, k4, ne⟩)
          exact p F' σ _ c2 (g.mono.trans m2)
        · exact p.elim
      | _ => exact p.elim
  · exact p.elim
end
end L3

set_option Elab.async false
set_option linter.all false
set_option maxRecDepth 100000
set_option maxHeartbeats 4000000
/-! L3More: repr, isinstance, how many unlike texts, lists turned about, the signs of a text. -/
namespace L3
open PySem PySem.Spec PyProof.Rows L2

/-! ### repr -/
def rRepr (K : PySem.W.Frag) : List V → Hp → VK → Prop := fun vs H Q => ∃ (a : Addr) (x : PyData), vs = [.ref a] ∧ Dp K H (.ref a) x ∧ x.showable = true ∧ x.hasDict = false ∧ x.depth ≤ 60 ∧ x.shown.length ≤ sizeLine ∧ Q (.str x.shown) H
theorem call_reprD {X : Cx} (hg : X.A.guards = some []) (hu : X.A.units + 64 < cLine) : CallR X (.builtin "repr") (rRepr X.K) := by
  intro pins s σ H xs us Q I r h
  obtain ⟨a, x, rfl, hx, h1, h2, h3, h4, q⟩ := h
  obtain ⟨u, rfl, ru⟩ := vals1 r
  obtain rfl : u = Value.ref a := ru
  obtain ⟨as, rd⟩ := Dp.reads I x _ _ hx rfl
  refine repr_of_reads' rd h1 (fun z => by rw [h2] at z; cases z) hg (by omega) (fun _ _ e => e) (fun h' u tk hk => ?_) h4
  exact ⟨.str x.shown, H, I.kept hk, ⟨_, rfl⟩, q⟩
@[irreducible] def dRepr : List D → Option D
  | [.lst l] => (pd (.lst l)).bind fun x => if x.showable && !x.hasDict && decide (x.depth ≤ 60) && decide (x.shown.length ≤ SL) then some (.str x.shown) else none
  | [.tup l] => (pd (.tup l)).bind fun x => if x.showable && !x.hasDict && decide (x.depth ≤ 60) && decide (x.shown.length ≤ SL) then some (.str x.shown) else none
  | _ => none
theorem lift_repr {M : Ms} {K : PySem.W.Frag} (hK : M.K = K) : LiftC M (rRepr K) dRepr := by
  subst hK
  intro B F env w σ H ds d vs Q c r e p
  have key : ∀ (d0 : D) (v : V) (a : Addr) (x : PyData), RelB M F H env σ d0 v → v = .ref a → pd d0 = some x → (if x.showable && !x.hasDict && decide (x.depth ≤ 60) && decide (x.shown.length ≤ SL) then some (D.str x.shown) else none) = some d → rRepr M.K [v] H Q := by
    intro d0 v a x r0 ev ep e2
    subst ev
    split at e2
    · rename_i hh
      cases e2
      simp only [Bool.and_eq_true, Bool.not_eq_true', decide_eq_true_eq] at hh
      exact ⟨a, x, rfl, c.dp r0 ep, hh.1.1.1, hh.1.1.2, hh.1.2, by rw [SL_eq]; exact hh.2, Post.val c p rfl⟩
    · cases e2
  unfold dRepr at e
  split at e
  · rename_i l
    obtain ⟨v, rfl, r0⟩ := r.one
    obtain ⟨a, xs, ev, _⟩ := c.lst r0
    cases ep : pd (.lst l) with
    | none => rw [ep] at e; cases e
    | some x =>
      rw [ep] at e
      exact key _ v a x r0 ev ep e
  · rename_i l
    obtain ⟨v, rfl, r0⟩ := r.one
    obtain ⟨a, xs, ev, _⟩ := c.tup r0
    cases ep : pd (.tup l) with
    | none => rw [ep] at e; cases e
    | some x =>
      rw [ep] at e
      exact key _ v a x r0 ev ep e
  · cases e

/-! ### isinstance(x, T), T a built-in class -/
def dTy : D → Option String
  | .non => some "NoneType"
  | .bl _ => some "bool"
  | .int _ => some "int"
  | .str _ => some "str"
  | .tup _ => some "tuple"
  | .lst _ => some "list"
  | .dic false _ => some "dict"
  | _ => none
def isiT (T : String) (t : String) : Bool := t == T || (t == "bool" && T == "int")
def dIsi (T : String) (d : D) : Option D := (dTy d).map fun t => .bl (isiT T t)
def misi (T : String) (f : M3 D) : M3 D := f.bind fun d => .opt (dIsi T d)
theorem sqT_type {K : PySem.W.Frag} {F : FS} {H : Hp} {a : Addr} {xs : List V} (h : SqT3 K F H a xs) : TyX K H (.ref a) (.type "tuple") := by
  exact .base (.tup h)
theorem Cor.ty {M : Ms} {B : Bs} {F : FS} {env : Env3} {w : Wd} {σ : Sl} {H : Hp} {d : D} {v : V} {t : String} (c : Cor M B F env w σ H) (r : RelB M F H env σ d v) (e : dTy d = some t) : TyX M.K H v (.type t) := by
  cases d with
  | non => cases e; rw [c.non r]; exact .base .non
  | bl b => cases e; rw [c.bl r]; exact .base (.bl b)
  | int i => cases e; rw [c.int r]; exact .base (.int i)
  | str s => cases e; rw [c.str r]; exact .base (.str s)
  | tup ds => cases e; obtain ⟨a, xs, rfl, h, _⟩ := c.tup r; exact sqT_type h
  | lst ds => cases e; obtain ⟨a, xs, rfl, h, _⟩ := c.lst r; exact .base (.lst h)
  | dic k kvs =>
    cases k with
    | true => cases e
    | false =>
      cases e
      rcases r with ⟨a, o, ps, rfl, _, h, _⟩ | ⟨i, e1, e2⟩
      · exact .fDict h
      · obtain ⟨v', e3, a, rfl, _, _, _, ps, h, _⟩ := c.own i _ e1
        rw [e2] at e3; cases e3
        exact .base (.dK h)
  | _ => cases e
theorem kitB_all (T : String) (hT : T = "str" ∨ T = "int" ∨ T = "bool" ∨ T = "tuple" ∨ T = "list") (d : D) (t : String) (e : dTy d = some t) {K : PySem.W.Frag} : PySem.W.kitOne K (.type t) (.type T) = some (isiT T t) := by
  refine kit_ty ?_
  cases d with
  | dic k kvs => cases k <;> cases e <;> rcases hT with rfl | rfl | rfl | rfl | rfl <;> decide +kernel
  | _ => cases e <;> rcases hT with rfl | rfl | rfl | rfl | rfl <;> decide +kernel
section
variable {X : Cx} {M : Ms} {e : Expr} {f : M3 D} {p pt pos : Pos}
theorem e3_isi (T : String) {nT : Str} (hg : Gl X "isinstance") (hm : X.mg "isinstance" = none) (hgT : Gl X nT) (hmT : X.mg nT = none) (hvT : bootBuiltins nT = some (.type T)) (hT : T = "str" ∨ T = "int" ∨ T = "bool" ∨ T = "tuple" ∨ T = "list") (he : PE X e (T3b M f)) (hK : M.K = X.K := by rfl)
    (hn : nT ≠ "__name__" := by decide) (hd : (nT == ("__debug__" : Str)) = false := by decide)
    (hs : starEach (e :: [.Name nT pt]) X.env = (false, eval e X.env) :: starEach [.Name nT pt] X.env := by rfl) (hs2 : starEach [.Name nT pt] X.env = (false, eval (.Name nT pt) X.env) :: starEach [] X.env := by rfl) (hpl : (backTo pos (starEach [.Name nT pt] X.env)).any (·.1) = false := by rfl) :
    PE X (.Call (.Name "isinstance" p) [e, .Name nT pt] [] pos) (T3 M (misi T f)) := by
  refine PEi (pe_callB call_isi hg hm boot_isinstance (pa_cons he (pa_cons (pe_bltn (v := .ty T) hgT hmT hvT rfl hn hd) pa_nil hs2) hs) (by decide) (by decide) hs hpl) fun σ H Q h => ?_
  obtain ⟨B, F, env, w, c, p⟩ := h
  refine T3b.mono (T3b.bind c p) fun v H1 ⟨F1, w1, d, g1, c1, r1, p1⟩ => ?_
  unfold M3.opt at p1
  cases ed : dIsi T d with
  | none => rw [ed] at p1; exact p1.elim
  | some x =>
    rw [ed] at p1
    unfold dIsi at ed
    cases et : dTy d with
    | none => rw [et] at ed; cases ed
    | some t =>
      rw [et] at ed
      cases ed
      exact ⟨v, .ty T, .type t, .type T, isiT T t, rfl, .ty T, by rw [← hK]; exact c1.ty r1 et, kitB_all T hT d t et, Post.val c1 p1 rfl⟩
end

/-! ### a set of texts, made of a list: how many there are -/
/-- each once, the first one kept -/
def once {α : Type} [DecidableEq α] (l : List α) : List α := l.foldl (fun acc k => if k ∈ acc then acc else acc ++ [k]) []
theorem once_snoc {α : Type} [DecidableEq α] (l : List α) (k : α) : once (l ++ [k]) = if k ∈ once l then once l else once l ++ [k] := by
  unfold once
  rw [List.foldl_append]
  rfl
theorem mem_once {α : Type} [DecidableEq α] (l : List α) (k : α) : k ∈ once l ↔ k ∈ l := by
  have : ∀ (n : Nat) (l : List α), l.length = n → (k ∈ once l ↔ k ∈ l) := by
    intro n
    induction n with
    | zero => intro l h; rw [List.eq_nil_of_length_eq_zero h]; exact Iff.rfl
    | succ n ih =>
      intro l h
      have hne : l ≠ [] := fun z => by rw [z] at h; cases h
      obtain ⟨r, x, rfl⟩ : ∃ r x, l = r ++ [x] := ⟨l.dropLast, l.getLast hne, (List.dropLast_concat_getLast hne).symm⟩
      have hl : r.length = n := by simpa using h
      rw [once_snoc]
      have := ih r hl
      split
      · rename_i hx
        rw [this]
        simp only [List.mem_append, List.mem_singleton]
        constructor
        · exact fun h => .inl h
        · rintro (h | h)
          · exact h
          · subst h
            have z : ∀ m (l : List α), l.length = m → ∀ y, y ∈ once l → y ∈ l := by
              intro m
              induction m with
              | zero => intro l h y hy; rw [List.eq_nil_of_length_eq_zero h] at hy; exact absurd hy (by simp [once])
              | succ m ihm =>
                intro l h y hy
                have hne : l ≠ [] := fun z => by rw [z] at h; cases h
                obtain ⟨r, x, rfl⟩ : ∃ r x, l = r ++ [x] := ⟨l.dropLast, l.getLast hne, (List.dropLast_concat_getLast hne).symm⟩
                rw [once_snoc] at hy
                have hl : r.length = m := by simpa using h
                split at hy
                · exact List.mem_append_left _ (ihm r hl y hy)
                · rcases List.mem_append.mp hy with hy | hy
                  · exact List.mem_append_left _ (ihm r hl y hy)
                  · exact List.mem_append_right _ hy
            exact z _ r rfl _ hx
      · rw [List.mem_append, List.mem_append, this]
  exact this l.length l rfl
theorem once_length_le {α : Type} [DecidableEq α] (l : List α) : (once l).length ≤ l.length := by
  have : ∀ (n : Nat) (l : List α), l.length = n → (once l).length ≤ l.length := by
    intro n
    induction n with
    | zero => intro l h; rw [List.eq_nil_of_length_eq_zero h]; exact Nat.le_refl _
    | succ n ih =>
      intro l h
      have hne : l ≠ [] := fun z => by rw [z] at h; cases h
      obtain ⟨r, x, rfl⟩ : ∃ r x, l = r ++ [x] := ⟨l.dropLast, l.getLast hne, (List.dropLast_concat_getLast hne).symm⟩
      have hl : r.length = n := by simpa using h
      have := ih r hl
      rw [once_snoc]
      split
      · simp; omega
      · simp; omega
  exact this l.length l rfl
section
variable {prog : Program} {w : World} {K : Type} [DecidableEq K] {knd : KeyKind prog w K}
abbrev SetL (knd : KeyKind prog w K) (h : Heap) (a : Addr) (l : List K) : Prop := h.SetOf knd a (fun k => decide (k ∈ l)) (once l).length
theorem setL_next {h' : Heap} {a : Addr} {l : List K} {k : K} (hS : h'.SetOf knd a (fun j => decide (j ∈ l) || decide (j = k)) (if decide (k ∈ l) = true then (once l).length else (once l).length + 1)) : SetL knd h' a (l ++ [k]) := by
  have e1 : (fun j => decide (j ∈ l) || decide (j = k)) = fun j => decide (j ∈ l ++ [k]) := by
    funext j
    rw [Bool.eq_iff_iff]
    simp
  have e2 : (if decide (k ∈ l) = true then (once l).length else (once l).length + 1) = (once (l ++ [k])).length := by
    rw [once_snoc]
    by_cases hk : k ∈ l
    · rw [if_pos (by simpa using hk), if_pos ((mem_once l k).mpr hk)]
    · rw [if_neg (by simpa using hk), if_neg (fun z => hk ((mem_once l k).mp z)), List.length_append]
      rfl
  rw [e1, e2] at hS
  exact hS
/-- what is drawn is put into the set, one after another -/
theorem set_fills {A : Around} {R : Result → Shared → Prop} {I : Addr} {fp wr : List Addr} {G : Array GenState → Array GenState → Prop} {n : Nat} {P : Nat → Value → Prop} {St : Nat → Shared → Prop}
    (W : WalksS prog w A.in1 I fp wr G n P St) (S : Addr) (nS : S ∉ fp) (l : List K) (hl : l.length = n) (hn : n + 1 < scanBound) (scan : ∀ i v, P i v → v.scannable = true ∧ ∃ k, l[i]? = some k ∧ knd.is k v = true) :
    ∀ (left i : Nat) (s : Shared), n - i = left → i ≤ n → St i s → SetL knd s.heap S (l.take i) → (∀ s', Moved (S :: wr) G s s' → SetL knd s'.heap S l → R (.ok (.ret .none)) s') →
      codeAny (model prog w) A (.builtin "set.update.loop" ⟨[.ref S, .ref I], []⟩) R s := by
  have nW : S ∉ wr := fun z => nS (W.sub _ z)
  have more : ∀ b ∈ wr, b ∈ S :: wr := fun b hb => .tail _ hb
  have carry : ∀ {s s' : Shared} {ks : List K}, SetL knd s.heap S ks → Moved wr G s s' → SetL knd s'.heap S ks := fun {s s' ks} ⟨o, es, ep, t, ho, rest⟩ hm => ⟨o, es, ep, t, hm.heap S _ nW ho, rest⟩
  intro left
  induction left with
  | zero =>
    intro i s hk hi hst hS hR
    obtain rfl : i = n := by omega
    refine codeAny_builtin F.entry_set_update_loop ?_
    rw [Around.under_plainId F.plain_set_update_loop _]
    show wpAny _ A.in1 (pyNext (.ref I) >>= _) _ _ s
    refine wpAny_bind (W.done s _ _ hst fun s' hm => wpAny_pure ?_)
    refine hR s' (hm.mono more) (carry ?_ hm)
    rwa [List.take_of_length_le (by omega)] at hS
  | succ left ih =>
    intro i s hk hi hst hS hR
    have lt : i < n := by omega
    refine codeAny_builtin F.entry_set_update_loop ?_
    rw [Around.under_plainId F.plain_set_update_loop _]
    show wpAny _ A.in1 (pyNext (.ref I) >>= _) _ _ s
    refine wpAny_bind (W.item i s _ _ lt hst fun v s1 hP hst1 hm => ?_)
    obtain ⟨hsc, k, hk1, hk2⟩ := scan i v hP
    show wpAny _ A.in1 (holding [v] (setAdd S v) >>= _) _ _ s1
    refine wpAny_bind (wpAny_holding ?_)
    unfold setAdd
    refine wpAny_holding (wpAny_bind (knd.pyHash hk2 ?_))
    have hlen : (once (l.take i)).length + 1 < scanBound := by
      have := once_length_le (l.take i)
      rw [List.length_take] at this
      omega
    refine wpAny_setAddHashed_of (knd := knd) hk2 hsc (show SetL knd s1.heap S (l.take i) from carry hS hm) hlen fun h2 sb hS2 => ?_
    have full := setL_next hS2
    have ht : l.take i ++ [k] = l.take (i + 1) := by
      obtain ⟨q1, q2⟩ := List.getElem?_eq_some_iff.mp hk1
      rw [List.take_succ_eq_append_getElem q1, q2]
    rw [ht] at full
    refine wpAny_pure ⟨plainId_quiet F.plain_set_update_loop _, ih (i + 1) _ (by omega) lt (W.frame _ s1 _ _ hst1 (Nat.le_succ _) fun b hb o e => ?_) full fun s3 m3 hS3 => hR s3 (Moved.trans W.gtrans ((hm.mono more).then_heap (Nat.le_succ _) fun b o hb e => ?_) m3) hS3⟩
    · have hb' : b ≠ S := fun z => nS (z ▸ hb)
      exact (sb.2 b hb').trans e
    · have hb' : b ≠ S := fun z => hb (z ▸ List.mem_cons_self)
      exact (sb.2 b hb').trans e
end

section
variable {prog : Program} {w : World} {A : Around} {E : Value → Shared → Prop} {s : Shared} {K : Type} [DecidableEq K] {knd : KeyKind prog w K}
abbrev set0 (led : Bool) : Obj := { cls := .type "set", dict := none, data := .set #[] 0 (.fresh 0 0 led) }
set_option maxHeartbeats 6400000 in
theorem call_setL {l : Addr} {its : Array Value} {ks : List K} {Q : Value → Shared → Prop} (calm : A.handled = none) (isl : s.heap.IsList l its) (ofK : ∀ (i : Nat) (v : Value), its[i]? = some v → v.scannable = true ∧ ∃ k, ks[i]? = some k ∧ knd.is k v = true)
    (sz : ks.length = its.size) (few : its.size + 1 < scanBound)
    (q : ∀ (h2 : Heap) (tk : Nat), SetL knd h2 s.heap.objs.size ks → (∀ b o, b < s.heap.objs.size → s.heap.get? b = some o → h2.get? b = some o) → Q (.ref s.heap.objs.size) { s with heap := h2, toks := tk }) :
    wpAny (model prog w) A (call (.type "set") [.ref l]) Q E s := by
  obtain ⟨c, tl, mroS⟩ := PySem.F.called_set.mro
  have madeS := PySem.F.called_set.made
  have subS := PySem.F.called_set.sub
  refine wpAny_call (codeAny_of_tree (show wpAny _ _ (callAny (.type "set") _) _ _ _ from wpAny_pure ⟨Code.quiet_builtin _ (by decide +kernel), codeAny_builtin PySem.F.entry_type_call ?_⟩))
  rw [Around.under_plain (weight_type_call_type "set" [.ref l] []) rfl]
  have f1 := PySem.F.called_set.notType
  have f2 := PySem.F.called_set.canCreate
  have f3 := PySem.F.typeCall_set_1 (.ref l)
  repeat (any_goals (first | assumption | wp_step))
  refine codeAny_mono (code_set_new_1 (.ref l) (E := E) (Q₁ := fun obj s1 => ∃ led : Bool, obj = .ref s.heap.objs.size ∧ s1 = { s with heap := s.heap.push (set0 led) }) fun led => ⟨led, rfl, rfl⟩) fun r s1 hr => ?_
  cases r with
  | error e => exact hr
  | ok fl =>
    cases fl with
    | ret obj =>
      obtain ⟨led, rfl, rfl⟩ := hr
      have atS : (s.heap.push (set0 led)).get? s.heap.objs.size = some (set0 led) := Heap.get?_push_size _ rfl
      have tyS : Shared.TypeIs { s with heap := s.heap.push (set0 led) } (.ref s.heap.objs.size) "set" := ⟨_, atS, rfl⟩
      have f4 := PySem.F.called_set.init.lookup
      have f5 := PySem.F.called_set.init.bind (.ref s.heap.objs.size)
      repeat (any_goals (first | assumption | wp_step))
      refine codeAny_mono (codeAny_call_builtin (R := wants (fun r s2 => r = .none ∧ ∃ h2 tk, s2 = { s with heap := h2, toks := tk } ∧ SetL knd h2 s.heap.objs.size ks ∧ (∀ b o, b < s.heap.objs.size → s.heap.get? b = some o → h2.get? b = some o)) E)
        PySem.F.called_set.init.plain PySem.F.entry_set_init (check_set_init_1 tyS ?_)) fun r2 s2 hr2 => ?_
      · obtain ⟨ol, eol, cl, nl, dl⟩ := isl
        obtain ⟨ocls, odict, odata, oslots⟩ := ol
        simp only at cl dl
        subst cl dl
        have eol2 : (s.heap.push (set0 led)).get? l = some { cls := .type "list", dict := odict, data := .seq its nl, slots := oslots } := Heap.get?_push_of_some _ eol
        have g1 := PySem.F.sub_list_set
        have g2 := PySem.F.sub_list_frozenset
        have g3 : (Value.type "list" == Value.type "dict") = false := by decide
        have isl2 : (s.heap.push (set0 led)).IsList l its := ⟨_, eol2, rfl, nl, rfl⟩
        unfold Builtin.«set.__init__» noKeywords Builtin.Frozenset.updateFrom
        generalize itr : pyIter = PI
        wp_walk
        subst itr
        refine wpAny_pyIter_list isl2 (wpAny_bind (wpAny_runValue ?_))
        have lS : l < s.heap.objs.size := Heap.lt_size eol
        have calm3 : A.in1.in1.in1.handled = none := by simp [calm]
        have n1 : l ≠ (s.heap.push (set0 led)).objs.size := by rw [Heap.size_push]; exact Nat.ne_of_lt (Nat.lt_succ_of_lt lS)
        have n2 : s.heap.objs.size ∉ [(s.heap.push (set0 led)).objs.size, l] := by
          rw [Heap.size_push]
          simp only [List.mem_cons, List.not_mem_nil, or_false, not_or]
          exact ⟨Nat.ne_of_lt (Nat.lt_succ_self _), Nat.ne_of_gt lS⟩
        refine set_fills (knd := knd) ((Walks.list calm3 _ l n1 its).toS) s.heap.objs.size n2 ks sz few ofK (its.size - 0) 0 _ (by omega) (Nat.zero_le _) ⟨⟨_, Heap.get?_push_size _ rfl, rfl, rfl⟩, (isl2.push _)⟩ ?first ?last
        case first =>
          have at2 : ((s.heap.push (set0 led)).push { cls := .type "list_iterator", data := .fields #[.ref l, .int 0 0] }).get? s.heap.objs.size = some (set0 led) := Heap.get?_push_of_some _ atS
          exact PyProof.Rows.SetOf_congr ((PyProof.Rows.setObjOf_fresh (knd := knd) led).setOf at2 (by unfold scanBound; omega)) (fun _ => rfl) rfl
        case last =>
          intro s3 m3 hS3
          obtain ⟨h3, gens3, drawn3, tk3, os3⟩ := s3
          obtain rfl : gens3 = s.gens := m3.gens
          obtain rfl : drawn3 = s.drawn := m3.drawn
          obtain rfl : os3 = s.os := m3.os
          refine wpAny_pure (show wpAny _ _ (ret Value.none) _ _ _ from wpAny_pure ⟨rfl, h3, tk3, rfl, hS3, fun b o hb e => ?_⟩)
          refine m3.heap b o ?_ (Heap.get?_push_of_some _ (Heap.get?_push_of_some _ e))
          simp only [List.mem_cons, List.not_mem_nil, or_false, not_or]
          exact ⟨Nat.ne_of_lt hb, by rw [Heap.size_push]; exact Nat.ne_of_lt (Nat.lt_succ_of_lt hb)⟩
      · cases r2 with
        | error e => exact hr2
        | ok fl2 =>
          cases fl2 with
          | ret r =>
            obtain ⟨rfl, h2, tk, rfl, hS2, keep2⟩ := hr2
            repeat (any_goals (first | assumption | wp_step))
            exact q _ _ hS2 keep2
          | _ => exact hr2.elim
    | _ => exact hr.elim
end
/-- len(set(xs)), xs a list of texts -/
def dLenSet (d : D) : Option D := match d with
  | .lst ds => (strsD ds).bind fun ys => if ys.length ≤ 1000 then some (.int (once ys).length) else none
  | _ => none
def mlenSet (f : M3 D) : M3 D := f.bind fun d => .opt (dLenSet d)
theorem strs_at : ∀ {ys : List Str} {us : List Value}, Vals (ys.map V.str) us → ∀ (i : Nat) (v : Value), us[i]? = some v → ∃ (y : Str) (t : Tok), ys[i]? = some y ∧ v = Value.str y t := by
  intro ys
  induction ys with
  | nil =>
    intro us r i v e
    cases r
    simp at e
  | cons y ys ih =>
    intro us r i v e
    cases r with
    | cons r1 r2 =>
      obtain ⟨t, rfl⟩ := r1
      cases i with
      | zero =>
        simp at e
        exact ⟨y, t, rfl, e.symm⟩
      | succ i =>
        obtain ⟨z, t', h1, h2⟩ := ih r2 i v (by simpa using e)
        exact ⟨z, t', by simpa using h1, h2⟩
section
variable {X : Cx} {M : Ms} {e : Expr} {f : M3 D} {p p2 q pos : Pos}
theorem e3_lenSet (hc : X.calm = true) (hg : Gl X "len") (hm : X.mg "len" = none) (hg2 : Gl X "set") (hm2 : X.mg "set" = none) (he : PE X e (T3b M f))
    (na : starEach [e] X.env = (false, eval e X.env) :: starEach [] X.env := by rfl) : PE X (.Call (.Name "len" p) [.Call (.Name "set" p2) [e] [] q] [] pos) (T3 M (mlenSet f)) := by
  refine ⟨fun pins s σ H Q I h => ?_⟩
  obtain ⟨B, F, env, w, c, pp⟩ := h
  refine Call_ (ld_blt I hg hm boot_len (PyProof.Rows.callWith_builtin1 (PyProof.Rows.args_cons (Call_ (ld_blt I hg2 hm2 boot_set ?_)) rfl) rfl rfl))
  refine PyProof.Rows.callWith_type1 (PyProof.Rows.args_cons (thn (he.run pins s σ H _ I (T3b.bind c pp)) fun v s1 ⟨x, H1, I1, r1, q1⟩ => PyProof.Rows.args_nil ?_) na) na rfl
  obtain ⟨F1, w1, d, g1, c1, rb, p1⟩ := q1
  unfold M3.opt at p1
  cases ed : dLenSet d with
  | none => rw [ed] at p1; exact p1.elim
  | some z =>
    rw [ed] at p1
    unfold dLenSet at ed
    split at ed
    · rename_i ds
      cases es : strsD ds with
      | none => rw [es] at ed; cases ed
      | some ys =>
        rw [es] at ed
        dsimp only [Option.bind] at ed
        split at ed
        · rename_i hl
          cases ed
          obtain ⟨a, xs, rfl, ha, rr⟩ := c1.lst rb
          cases r1
          have ex := strsD_rel es rr
          subst ex
          obtain ⟨its, rv, pl, hz⟩ := I1.list (.of ha)
          have hsz : ys.length = its.toArray.size := by rw [List.size_toArray, ← rv.length, List.length_map]
          refine call_setL (knd := strKind X.prog X.w) (ks := ys) (I1.ok.hd hc) pl.isList (fun i v hv => ?_) hsz (by rw [← hsz]; unfold scanBound; omega) fun h2 tk hS keep => ?_
          · obtain ⟨y, t, h1, rfl⟩ := strs_at rv i v (by simpa using hv)
            exact ⟨rfl, y, h1, by first | rfl | simp [strKind, Value.isStrOf] | exact strKind_is _ _ _ _⟩
          · refine PyProof.Rows.args_nil ?_
            obtain ⟨o, es', ep, t, ho, hex, hd, _, _, _, hf, hn⟩ := hS
            have I2 : Inv X pins σ H1 { s1 with heap := h2, toks := tk } := I1.kept fun b o e => keep b o (Heap.lt_size e) e
            have hle := once_length_le ys
            refine call_len_set ho hex hd hf (by rw [hn]; omega) ⟨.int (once ys).length, H1, I2.tok _, ⟨_, by rw [hn]⟩, Post.val c1 p1 rfl⟩
        · cases ed
    · cases ed
end

/-! ### xs[::-1]; list(text); the signs of a text -/
def dRevL : D → Option D
  | .lst ds => some (.lst ds.reverse)
  | _ => none
def mrevL (f : M3 D) : M3 D := f.bind fun d => .opt (dRevL d)
section
variable {X : Cx} {M : Ms} {e : Expr} {f : M3 D} {k : Nat} {p1 p2 p3 pos : Pos}
theorem e3_revL (he : PE X e (T3b M f)) : PE X (.Subscript e (.Slice none none (some (.UnaryOp .USub (.Constant (.int 1) k p1) p2)) p3) pos) (T3 M (mrevL f)) := by
  refine PEi (pe_revL he) fun σ H Q h => ?_
  obtain ⟨B, F, env, w, c, p⟩ := h
  refine T3b.mono (T3b.bind c p) fun v H1 ⟨F1, w1, d, g1, c1, r1, p1⟩ => ?_
  unfold M3.opt at p1
  cases ed : dRevL d with
  | none => rw [ed] at p1; exact p1.elim
  | some z =>
    rw [ed] at p1
    unfold dRevL at ed
    split at ed
    · cases ed
      obtain ⟨a, xs, rfl, h1, r4⟩ := c1.lst r1
      exact ⟨a, xs, rfl, .of h1, fun q hq => Post.lst c1 r4.reverse p1 hq⟩
    · cases ed
end
def sgn (c : Nat) : Str := ⟨#[c]⟩
def rListS : List V → Hp → VK → Prop := fun vs H Q => ∃ z : Str, vs = [.str z] ∧ z.length ≤ sizeLine ∧ ∀ l, H l = none → Q (.ref l) (upd H l (.lst (z.cps.toList.map fun c => V.str (sgn c))))
theorem vals_signs {x : Str} {acc : Array Value} (h : ItemsOf (SignAt x) acc x.cps.size) : Vals (x.cps.toList.map fun c => V.str (sgn c)) acc.toList := by
  have key : ∀ (l : List Nat) (us : List Value), us.length = l.length → (∀ (i : Nat) (v : Value), us[i]? = some v → ∃ (c : Nat) (u : Tok), l[i]? = some c ∧ v = Value.str ⟨#[c]⟩ u) → Vals (l.map fun c => V.str (sgn c)) us := by
    intro l
    induction l with
    | nil => intro us h1 _; rw [List.eq_nil_of_length_eq_zero h1]; exact .nil
    | cons c l ih =>
      intro us h1 h2
      cases us with
      | nil => cases h1
      | cons u us =>
        obtain ⟨c', t, e1, e2⟩ := h2 0 u rfl
        simp at e1
        subst e1
        exact .cons ⟨t, e2⟩ (ih us (by simpa using h1) fun i v e => by simpa using h2 (i + 1) v (by simpa using e))
  refine key _ _ ?_ fun i v e => ?_
  · rw [Array.length_toList, h.1]; simp
  · obtain ⟨c, u, e1, e2⟩ := h.2 i v (by rw [← Array.getElem?_toList]; exact e)
    exact ⟨c, u, by rw [Array.getElem?_toList]; exact e1, e2⟩
theorem call_listS {X : Cx} (hc : X.calm = true) : CallR X (.type "list") rListS := by
  intro pins s σ H xs us Q I r h
  obtain ⟨z, rfl, hz, q⟩ := h
  obtain ⟨u, rfl, t, rfl⟩ := vals1 r
  refine call_list_str (I.ok.hd hc) z t (fun h' tk acc c' keep at' items => ?_) hz
  refine ⟨.ref s.heap.objs.size, _, I.laid (o := .lst (z.cps.toList.map fun c => V.str (sgn c))) (t' := tk) keep (Nat.le_refl _) ⟨?_, acc.toList, c', vals_signs items, ?_⟩, rfl, q _ (I.hok.fresh (Nat.le_refl _))⟩
  · rw [List.length_map, Array.length_toList]; exact hz
  · rw [at', Array.toArray_toList]
def dListS : List D → Option D
  | [.str z] => if z.length ≤ SL then some (.lst (z.cps.toList.map fun c => .str (sgn c))) else none
  | _ => none
theorem RelDs.signs {M : Ms} {F : FS} {H : Hp} : ∀ l : List Nat, RelDs M F H (l.map fun c => .str (sgn c)) (l.map fun c => V.str (sgn c))
  | [] => rfl
  | c :: l => ⟨_, _, rfl, rfl, RelDs.signs l⟩
theorem lift_listS {M : Ms} : LiftC M rListS dListS := by
  intro B F env w σ H ds d vs Q c r e p
  unfold dListS at e
  split at e
  · split at e
    · rename_i hl
      cases e
      obtain ⟨v, rfl, r0⟩ := r.one
      exact ⟨_, by rw [c.str r0], by rw [SL_eq]; exact hl, fun l hl => Post.lst c (RelDs.signs _) p hl⟩
    · cases e
  · cases e
def istr (f : M3 D) : M3 (List D) := f.bind fun d => match d with
  | .str z => M3.ret (z.cps.toList.map fun c => .str (sgn c))
  | _ => fun _ _ => .bad
section
variable {X : Cx} {M : Ms} {tg e : Expr} {f : M3 D}
theorem i3_str (he : PE X e (T3 M f)) : PI X tg e (T3i M (istr f)) := by
  refine PIi (pi_str he) fun σ H R h => ?_
  refine t3i_of h fun B F env w d v H1 c r p => ?_
  cases d with
  | str z =>
    refine ⟨z, r, p F H1 _ c.self fun i F2 H2 w2 m hd hw => ⟨fun hl => ?_, fun d hd2 => ?_⟩⟩
    · show z.cps.size ≤ i
      simpa using hl
    · rw [List.getElem?_map] at hd2
      cases ec : z.cps.toList[i]? with
      | none => rw [ec] at hd2; cases hd2
      | some k =>
        rw [ec] at hd2
        cases hd2
        have hk : z.cps[i]? = some k := by rw [← Array.getElem?_toList]; exact ec
        refine ⟨(Array.getElem?_eq_some_iff.mp hk).1, fun x H' ⟨e1, k', e2, e3⟩ => ?_⟩
        subst e1
        rw [hk] at e2
        cases e2
        exact ⟨F2, .refl hd hw, e3⟩
  | _ => exact p.elim
end
end L3

set_option Elab.async false
set_option linter.all false
set_option maxRecDepth 100000
set_option maxHeartbeats 4000000
/-! L3End: some further rules; a law's own head and end. -/
namespace L3
open PySem PySem.Spec PyProof.Rows L2

section
variable {X : Cx} {M : Ms} {e : Expr} {f : M3 D} {pos : Pos}
def dNeg : D → Option D
  | .int i => some (.int (-i))
  | _ => none
def mneg (f : M3 D) : M3 D := f.bind fun d => .opt (dNeg d)
theorem e3_neg (he : PE X e (T3b M f)) : PE X (.UnaryOp .USub e pos) (T3 M (mneg f)) := by
  refine PEi (pe_un un_neg he) fun σ H Q h => ?_
  obtain ⟨B, F, env, w, c, p⟩ := h
  refine T3b.mono (T3b.bind c p) fun v H1 ⟨F1, w1, d, g1, c1, r1, p1⟩ => ?_
  unfold M3.opt at p1
  cases ed : dNeg d with
  | none => rw [ed] at p1; exact p1.elim
  | some z =>
    rw [ed] at p1
    unfold dNeg at ed
    split at ed
    · cases ed
      exact ⟨_, c1.int r1, Post.val c1 p1 rfl⟩
    · cases ed
theorem new_obj {B : Bs} {F : FS} {env : Env3} {w : Wd} {σ : Sl} {H : Hp} {a : Addr} {o : HO} (c : Cor M B F env w σ H) (ha : H a = none) : Grow M F H F w (upd H a o) ∧ ¬ F a ∧ ¬ isDk M a := by
  have nf : ¬ F a := fun z => c.gd.dom a z ha
  refine ⟨⟨fun _ h => h, fun b u e n => by rw [upd_ne (ne_of_none e ha)]; exact e, fun _ f _ => f, fun b f => ?_, fun q e => ?_, fun b xs e => by rw [upd_ne (ne_of_none e ha)]; exact e⟩, nf, fresh_dk c.gd.world ha⟩
  · have hb : b ≠ a := fun z => nf (z ▸ f)
    rw [upd_ne hb]; exact c.gd.dom b f
  · obtain ⟨h1, h2, h3, h4, h5⟩ := c.gd.world q e
    exact ⟨by rw [upd_ne (ne_of_none h1 ha)]; exact h1, by rw [upd_ne (ne_of_none h2 ha)]; exact h2, h3, h4, h5⟩
theorem e3n_dict0 : PE X (.Dict [] [] pos) (T3n M (cst (.dic false []))) := by
  refine PEi pe_dnewK fun σ H Q h => ?_
  obtain ⟨B, F, env, w, c, p⟩ := h
  intro a ha
  obtain ⟨g, nf, nd⟩ := new_obj (o := .dK []) c ha
  exact p F _ a g nf ha nd ⟨[], upd_same, rfl⟩
theorem e3_dict0 : PE X (.Dict [] [] pos) (T3 M (cst (.dic false []))) := n3 e3n_dict0 (by intro env w c ds w' h; cases h)
theorem e3n_dict0T : PE X (.Dict [] [] pos) (T3n M (cst (.dic true []))) := by
  refine PEi pe_dnewT fun σ H Q h => ?_
  obtain ⟨B, F, env, w, c, p⟩ := h
  intro a ha
  obtain ⟨g, nf, nd⟩ := new_obj (o := .dT []) c ha
  exact p F _ a g nf ha nd ⟨[], upd_same, rfl⟩
theorem e3_dict0T : PE X (.Dict [] [] pos) (T3 M (cst (.dic true []))) := n3 e3n_dict0T (by intro env w c ds w' h; cases h)
/-- x = [.. for ..] on one line -/
theorem s3_setLc {i : Nat} {y : Str} {py : Pos} {elt tg iter : Expr} {ifs : List Expr} {scope : Scope} {own : List (Str × Nat)} {spos : Pos} {it : M3 (List D)} {g : G3} {t : M3 Bool} {f : M3 D} (hc : X.calm = true) (hN : X.N.Nodup) (hi : PI X tg iter (T3i M it)) (ok : BlkOk X.N X.env.scope scope own)
    (hg : ∀ (s : Shared) (H : Hp) (C : Addr) (cl : List (Str × Addr)) (fp : List Addr), PG (X.blk s H scope (compEnvC scope cl C X.env) fp) tg (T3g M g (own.map (·.2)))) (ht : ∀ (s : Shared) (H : Hp) (C : Addr) (cl : List (Str × Addr)) (fp : List Addr), PTs (X.blk s H scope (compEnvC scope cl C X.env) fp) ifs (T3t M t))
    (he : ∀ (s : Shared) (H : Hp) (C : Addr) (cl : List (Str × Addr)) (fp : List Addr), PE (X.blk s H scope (compEnvC scope cl C X.env) fp) elt (T3 M f)) (hy : X.N[i]? = some y := by rfl) (hyl : X.env.scope.names.lookup y = some .local := by rfl)
    (hsw : swapsWith (.ListComp elt [⟨tg, iter, ifs, 0⟩] scope pos) (some (.Name y py)) spos.line X.env = pure true := by exact sw_true rfl rfl rfl (by decide +kernel)) (hs : ∀ x, foldedSetIterable iter X.env x = pure x := by intro _; rfl) :
    PS X (.Assign [.Name y py] (.ListComp elt [⟨tg, iter, ifs, 0⟩] scope pos) spos) (TS3 M (sasg (mlc it g t f (own.map (·.2))) (gn i))) := by
  refine PSi (ps_setLc hc hN hy hyl hsw hi ok hg ht he hs) fun D0 σ H h => tlc_of _ _ _ ?_
  obtain ⟨B, F, env, w, c, p⟩ := h
  refine ⟨B, F, env, w, c, ?_⟩
  unfold sasg at p
  cases ef : mlc it g t f (own.map (·.2)) env w with
  | bad => rw [ef] at p; exact p
  | ok d w' =>
    rw [ef] at p
    dsimp only at p
    intro F' H' a gr nf ha nd oc
    obtain ⟨o, ho⟩ := oc.there
    have g2 := gr.freeze ha nd (by rw [ho]; exact fun z => by cases z)
    have hd : ∀ c ds, d = .obj c ds → (M.nm c).length = ds.length := by
      intro c ds e
      subst e
      unfold mlc at ef
      cases h1 : it env w with
      | bad => rw [h1] at ef; cases ef
      | ok a b =>
        rw [h1] at ef
        dsimp only at ef
        cases h2 : lcL g t f (own.map (·.2)) a env b [] with
        | bad => rw [h2] at ef; cases ef
        | ok x y => rw [h2] at ef; cases ef
    have hdic : isDic d = false := by
      unfold mlc at ef
      cases h1 : it env w with
      | bad => rw [h1] at ef; cases ef
      | ok a b =>
        rw [h1] at ef
        dsimp only at ef
        cases h2 : lcL g t f (own.map (·.2)) a env b [] with
        | bad => rw [h2] at ef; cases ef
        | ok x y => rw [h2] at ef; cases ef; rfl
    have r := oc.rel hdic hd
    unfold gn at p
    split at p
    · rename_i env' ee
      split at ee
      · cases ee
        exact p _ _ H' ((c.grow g2).setF r i) g2.mono
      · cases ee
    · exact p.elim
end

/-! ### the law's call -/
theorem callerA_guards : callerA.guards = some [] := rfl
/-- THE HEAD: from the promise of the law's def, with guards told, to its call behind the top -/
theorem law_callG {P : Program} {w : World} {K : PySem.W.Frag} {mg mb : Str → Option Value} {k : Nat} {fa a : Addr} {fd : FuncData} {x : Str} {sp : Sp} {s1 : Shared} {vs : List Value} {ns : List Int}
    (kx : K.In s1.heap) (gl : s1.heap.Ns mainGlobals mg) (bl : s1.heap.Ns builtinsNs mb) (blt : ∀ x : Str, x ≠ "__name__" → mb x = bootBuiltins x) (unl : s1.heap.NoLimit) (gens : s1.gens = #[])
    (at_ : s1.heap.get? a = some { cls := .type "list", data := .seq vs.toArray }) (intz : IntsAre vs ns) (size : ns.length ≤ sizeLine) (room : Room k callerA)
    (G : ∀ base : Heap, K.In base → base.Ns mainGlobals mg → FnG P w K mg base k fa fd [x] sp) (bind : ∀ (s : Shared) (u : Value), BindsTo s fd ⟨[u], []⟩ [(x, u)])
    (prom : ∀ H : Hp, Only H → SqL K H a (ns.map V.int) → sp [.ref a] H (fun v _ => v = .bl true) E0) :
    codeAny (model P w) callerA (.call (.ref fa) ⟨[.ref a], []⟩) (fun r s' => r = .ok (.ret (.bool true)) ∧ OldK s1.heap s'.heap ∧ s'.os = s1.os ∧ AllBare s'.gens) s1 := by
  have rel := vals_ints intz
  have lenV := intz.length
  have from_ : ∀ H : Hp, Only H → SqL K H a (ns.map V.int) → HOk P w H s1.heap → (∀ b, H b ≠ none → b = a) → (H a ≠ none → K.lookup a = none) →
      codeAny (model P w) callerA (.call (.ref fa) ⟨[.ref a], []⟩) (fun r s' => r = .ok (.ret (.bool true)) ∧ OldK s1.heap s'.heap ∧ s'.os = s1.os ∧ AllBare s'.gens) s1 := by
    intro H only list ok one notK
    have dict_free : ∀ {b : Addr} {o : Obj} {es : Array DictEntry} {ep : Nat}, s1.heap.get? b = some o → o.data = .dict es ep → H b = none := by
      intro b o es ep e d
      cases q : H b with
      | none => rfl
      | some u =>
        obtain rfl : b = a := one b (by rw [q]; simp)
        rw [at_] at e
        cases e
        cases (show Data.seq vs.toArray _ = Data.dict es ep from d)
    have ns_ : ∀ {b : Addr} {m : Str → Option Value}, s1.heap.Ns b m → (hidT s1.heap H).Ns b m := fun {b m} ⟨o, es, ep, e, d, r⟩ => ⟨o, es, ep, hidT_get e (dict_free e d), d, r⟩
    have kb : K.In (hidT s1.heap H) := fun b o e => hidT_get (kx b o e) (by
      cases q : H b with
      | none => rfl
      | some u =>
        obtain rfl : b = a := one b (by rw [q]; simp)
        rw [notK (by rw [q]; simp)] at e
        cases e)
    have md : Mod K mg (hidT s1.heap H) := ⟨kb, ns_ gl, ⟨mb, ns_ bl, blt⟩, let ⟨mc, h1, h2⟩ := unl; ⟨mc, ns_ h1, h2⟩⟩
    have e0 : Env0 P w K mg (hidT s1.heap H) callerA [] s1 H := ⟨rfl, md, fun b o e => of_hidT e, Nat.le_of_eq (hidT_size _ _), trivial, fun b hb => absurd (show b ∈ ([] : List Addr) from hb) (by simp), ok, .of_eq gens⟩
    refine codeAny_mono (G _ kb (ns_ gl) callerA [] s1 H ⟨[.ref a], []⟩ [.ref a] [.ref a] _ room callerA_guards e0 rfl (bind s1 (.ref a)) (.cons rfl .nil) (prom H only list)) fun r s' h => ?_
    cases r with
    | error e => exact False.elim h
    | ok fl =>
      cases fl with
      | next => exact False.elim h
      | brk => exact False.elim h
      | cont => exact False.elim h
      | ret u =>
        obtain ⟨v, H', os, bare, un, ok', rv, q⟩ := h
        obtain rfl : v = .bl true := q
        obtain rfl : u = Value.bool true := rv
        refine ⟨rfl, OldK.of_keep fun b o e => ?_, os, bare⟩
        cases q : H b with
        | none => exact un.keep b o e q (by intro z; exact absurd (show b ∈ ([] : List Addr) from z) (by simp)) (by simp)
        | some u =>
          rcases only b with z | ⟨ob, xs, z⟩
          · rw [q] at z; cases z
          · obtain ⟨e1, _⟩ := ok b _ z
            obtain ⟨e2, _⟩ := ok' b _ (un.frzs b ob _ z)
            rw [e] at e1
            cases e1
            exact e2
  cases hk : K.lookup a with
  | some o =>
    have e := kx a o hk
    rw [at_] at e
    cases e
    exact from_ (fun _ => none) (fun _ => .inl rfl) (.inr ⟨_, vs.toArray, _, hk, rfl, rfl, rfl, by rw [List.size_toArray, lenV]; exact size, by simpa using rel⟩) (fun b u z => nomatch z) (fun b z => absurd rfl z) fun z => absurd rfl z
  | none =>
    refine from_ (fun b => if b = a then some (.frz { cls := .type "list", data := .seq vs.toArray } (.lst (ns.map V.int))) else none) (fun b => ?_) (.inl (.inr ⟨{ cls := .type "list", data := .seq vs.toArray }, if_pos rfl⟩)) (fun b u z => ?_) (fun b z => ?_) fun _ => hk
    · by_cases hb : b = a
      · exact .inr ⟨_, _, if_pos hb⟩
      · exact .inl (if_neg hb)
    · by_cases hb : b = a
      · have z' := (if_pos hb).symm.trans z
        cases z'
        subst hb
        exact ⟨at_, by rw [List.length_map]; exact size, vs, _, rel, at_⟩
      · have z' := (if_neg hb).symm.trans z
        cases z'
    · by_cases hb : b = a
      · exact hb
      · exact absurd (if_neg hb) z
theorem walkG {l : PySem.W.OpenLaw} {n k : Nat} {q : Program} {loose : List Str} {XP : (Str → Option Value) → Heap → Prop} {YP : World → Heap → Prop} {d : DefRec} {K : Params → PySem.W.Frag} {sp : PySem.W.Frag → Sp} {x : Str}
    (hn : l.most = some n) (hn2 : n ≤ sizeLine) (hdf : d.params.defaults = []) (room : Room k callerA) (hY : ∀ (w : World) (h : Heap), YP w h → (K w.params).In h)
    (G : ∀ (w : World) (mg : Str → Option Value) (fa : Addr) (h : Heap), (K w.params).In h → h.Ns mainGlobals mg → mg d.name = some (.ref fa) →
      ∃ fd : FuncData, (∀ (s : Shared) (u : Value), BindsTo s fd ⟨[u], []⟩ [(x, u)]) ∧ ∀ base : Heap, (K w.params).In base → base.Ns mainGlobals mg → FnG l.prog w (K w.params) mg base k fa fd [x] (sp (K w.params)))
    (prom : ∀ (K : PySem.W.Frag) (H : Hp) (a : Addr) (ns : List Int), ns.length ≤ n → Only H → SqL K H a (ns.map V.int) → sp K [.ref a] H (fun v _ => v = .bl true) E0) :
    PySem.W.WalkO q loose XP YP l.row.toRowW d [] (fun f vs => PySem.call f vs) := by
  refine Att.attach_call hn hdf fun w s0 s1 mg mb fa o pm cd doc a vs ns Gr Y ho hd hcd hmg hobj hints hlen hg => ?_
  have kx := hY w _ Y
  obtain ⟨fd, hb, hG⟩ := G w mg fa _ kx Gr.T.g hmg
  exact law_callG kx Gr.T.g Gr.T.b Gr.T.builtins Gr.T.nolimit hg hobj hints (Nat.le_trans hlen hn2) room hG hb fun H hO hS => prom (K w.params) H a ns hlen hO hS
end L3

set_option Elab.async false
set_option linter.all false
set_option maxRecDepth 100000
set_option maxHeartbeats 4000000
/-! L3Gen: what the printed derivations lean on: defs with a star parameter, keywords put in order. -/
namespace L3
open PySem PySem.Spec PyProof.Rows L2

def dAddI : D → D → Option D
  | .int i, .int j => some (.int (i + j))
  | _, _ => none
theorem lift_add0 {M : Ms} : Lift2 M (rI0 fun i j => .int (i + j)) dAddI := lift_int0 fun x y d e => by
  unfold dAddI at e
  split at e
  · cases e; exact ⟨_, _, rfl, rfl, fun _ _ => rfl⟩
  · cases e

theorem mlc_lst {it : M3 (List D)} {g : G3} {t : M3 Bool} {f : M3 D} {vs : List Nat} {env : Env3} {w w' : Wd} {d : D} (h : mlc it g t f vs env w = .ok d w') : ∃ ds, d = .lst ds := by
  unfold mlc at h
  cases h1 : it env w with
  | bad => rw [h1] at h; cases h
  | ok a b =>
    rw [h1] at h
    dsimp only at h
    cases h2 : lcL g t f vs a env b [] with
    | bad => rw [h2] at h; cases h
    | ok x y => rw [h2] at h; cases h; exact ⟨_, rfl⟩
theorem e3_lcV {X : Cx} {M : Ms} {elt tg iter : Expr} {ifs : List Expr} {scope : Scope} {own : List (Str × Nat)} {pos : Pos} {it : M3 (List D)} {g : G3} {t : M3 Bool} {f : M3 D} (hc : X.calm = true) (hN : X.N.Nodup) (hi : PI X tg iter (T3i M it)) (ok : BlkOk X.N X.env.scope scope own)
    (hg : ∀ (s : Shared) (H : Hp) (C : Addr) (cl : List (Str × Addr)) (fp : List Addr), PG (X.blk s H scope (compEnvC scope cl C X.env) fp) tg (T3g M g (own.map (·.2)))) (ht : ∀ (s : Shared) (H : Hp) (C : Addr) (cl : List (Str × Addr)) (fp : List Addr), PTs (X.blk s H scope (compEnvC scope cl C X.env) fp) ifs (T3t M t))
    (he : ∀ (s : Shared) (H : Hp) (C : Addr) (cl : List (Str × Addr)) (fp : List Addr), PE (X.blk s H scope (compEnvC scope cl C X.env) fp) elt (T3 M f)) (hs : ∀ x, foldedSetIterable iter X.env x = pure x := by intro _; rfl) :
    PE X (.ListComp elt [⟨tg, iter, ifs, 0⟩] scope pos) (T3 M (mlc it g t f (own.map (·.2)))) :=
  n3 (e3_lc hc hN hi ok hg ht he hs) fun env w c ds w' h => by obtain ⟨z, e⟩ := mlc_lst h; cases e

/-! ### == and != -/
def dEqA : D → D → Option D
  | .str i, .str j => some (.bl (decide (i = j)))
  | .int i, .int j => some (.bl (decide (i = j)))
  | x, y => dEq x y
def dNeA : D → D → Option D
  | .str i, .str j => some (.bl (!decide (i = j)))
  | .int i, .int j => some (.bl (!decide (i = j)))
  | x, y => dNe x y
def rEqA (K : PySem.W.Frag) : R2 := fun x y H Q => rEq x y H Q ∨ rEqD K x y H Q
def rNeA (K : PySem.W.Frag) : R2 := fun x y H Q => rNe x y H Q ∨ rNeD K x y H Q
theorem op_eqA {X : Cx} (hu : X.A.units + 64 < cLine) : OpR X (compareOp .Eq) (rEqA X.K) := OpR.or op_eq (op_eqD hu)
theorem op_neA {X : Cx} (hu : X.A.units + 64 < cLine) : OpR X (compareOp .NotEq) (rNeA X.K) := OpR.or op_ne (op_neD hu)
theorem lift_eqA {M : Ms} {K : PySem.W.Frag} (hK : M.K = K) : Lift2 M (rEqA K) dEqA := by
  intro B F env w σ H dx dy d x y Q c rx ry e p
  unfold dEqA at e
  split at e
  · rename_i i j
    cases e
    have hx := c.str rx
    have hy := c.str ry
    subst hx hy
    refine .inl ⟨rfl, ?_⟩
    have z : decide (V.str i = V.str j) = decide (i = j) := by simp
    rw [z]
    exact p F H _ c.self rfl
  · rename_i i j
    cases e
    have hx := c.int rx
    have hy := c.int ry
    subst hx hy
    refine .inl ⟨rfl, ?_⟩
    have z : decide (V.int i = V.int j) = decide (i = j) := by simp
    rw [z]
    exact p F H _ c.self rfl
  · exact .inr (lift_eq hK B F env w σ H _ _ d x y Q c rx ry e p)
theorem lift_neA {M : Ms} {K : PySem.W.Frag} (hK : M.K = K) : Lift2 M (rNeA K) dNeA := by
  intro B F env w σ H dx dy d x y Q c rx ry e p
  unfold dNeA at e
  split at e
  · rename_i i j
    cases e
    have hx := c.str rx
    have hy := c.str ry
    subst hx hy
    refine .inl ⟨rfl, ?_⟩
    have z : decide (V.str i = V.str j) = decide (i = j) := by simp
    rw [z]
    exact p F H _ c.self rfl
  · rename_i i j
    cases e
    have hx := c.int rx
    have hy := c.int ry
    subst hx hy
    refine .inl ⟨rfl, ?_⟩
    have z : decide (V.int i = V.int j) = decide (i = j) := by simp
    rw [z]
    exact p F H _ c.self rfl
  · exact .inr (lift_ne hK B F env w σ H _ _ d x y Q c rx ry e p)

/-! ### keywords -/
def kwP {α : Type} (p : List Nat) (l : List α) : List α := if l.length = p.length then p.filterMap (fun i => l[i]?) else []
theorem kwP_rel {M : Ms} {F : FS} {H : Hp} (p : List Nat) {ds : List D} {vs : List V} (r : RelDs M F H ds vs) : RelDs M F H (kwP p ds) (kwP p vs) := by
  unfold kwP
  rw [r.length]
  split
  · rename_i hl
    clear hl
    induction p with
    | nil => exact rfl
    | cons i p ih =>
      rw [List.filterMap_cons, List.filterMap_cons]
      cases e : ds[i]? with
      | some d =>
        obtain ⟨v, q, rv⟩ := r.get e
        rw [q]
        exact ⟨_, _, rfl, rv, ih⟩
      | none =>
        have hv : vs[i]? = none := by
          rw [List.getElem?_eq_none_iff] at e ⊢
          rw [← r.length]; exact e
        rw [hv]
        exact ih
  · exact rfl
theorem Vals.get : ∀ {vs : List V} {us : List Value} (i : Nat), Vals vs us → (∀ v, vs[i]? = some v → ∃ u, us[i]? = some u ∧ RelV v u) ∧ (vs[i]? = none → us[i]? = none)
  | _, _, i, .nil => ⟨fun v e => (by simp at e), fun _ => by simp⟩
  | _, _, 0, .cons h t => ⟨fun v e => by cases e; exact ⟨_, rfl, h⟩, fun e => by cases e⟩
  | _, _, i + 1, .cons h t => by
    have := Vals.get i t
    exact ⟨fun v e => this.1 v e, fun e => this.2 e⟩
theorem kwP_vals (p : List Nat) {vs : List V} {us : List Value} (r : Vals vs us) : Vals (kwP p vs) (kwP p us) := by
  unfold kwP
  rw [r.length]
  split
  · rename_i hl
    clear hl
    induction p with
    | nil => exact .nil
    | cons i p ih =>
      rw [List.filterMap_cons, List.filterMap_cons]
      cases e : vs[i]? with
      | some d =>
        obtain ⟨v, q, rv⟩ := (Vals.get i r).1 d e
        rw [q]
        exact .cons rv ih
      | none =>
        rw [(Vals.get i r).2 e]
        exact ih
  · exact .nil
theorem kwP_len {p : List Nat} {n : Nat} (hn : 0 < n) (hp : p.length = n) (ds : List D) (h : (kwP p ds).length = n) : ds.length = n := by
  unfold kwP at h
  split at h
  · omega
  · have : (0 : Nat) = n := h
    omega

/-! ### def f(*v) -/
def starM (m : Fun3) : Fun3 := fun ds w => m [.tup ds] w
def BindStar (x qual : Str) (st : Stmt) (pv : Str) : Prop := ∀ (kV doc pm cdv ct : Value) (an : Option Addr) (rest : List Value),
  bindArgs (PySem.W.fnOf x qual (defArgs st) (defBody st) (defScope st) .none kV doc pm an cdv ct) ⟨rest, []⟩ = (newTuple rest >>= fun t => pure [(pv, t)])
section
variable {P : Program} {w : World} {K : PySem.W.Frag} {mg : Str → Option Value} {base : Heap} {M : Ms}
theorem fnStar3 {k : Nat} {x qual pv : Str} {st : Stmt} {f : Addr} {fd : FuncData} {N : List Str} {g : St3} (Fn : Fun K x qual st f fd) (S : FnScope N [pv] (defScope st)) (hb : BindStar x qual st pv)
    (hbody : ∀ (cdv : Value) (A : Around) (outer : List Env) (s : Shared) (H : Hp) (E : XK), Room k (A.deeper (envOfC qual (defScope st) s.heap.objs.size f cdv)) → PSs (cxOf CX0 P w K mg base N qual (defScope st) f cdv A outer s H E).nox (defBody st) (TS3 M g))
    (n : Nat) (hn : n ≤ SL) : PosG P w K mg base (k + 1) f (Sp3 M n (starM (defM N.length g))) := by
  obtain ⟨oc, od, kV, doc, pm, an, cdv, ct, osl, efd, look, code⟩ := Fn.ex
  subst efd
  have hN : 1 ≤ N.length := by have := congrArg List.length S.pre; rw [List.length_take] at this; simp at this; omega
  refine (FnR.posG (StX.fn_star (ps := []) (k := k) (N := N) (CX := CX0) (P := P) (w := w) (mg := mg) (base := base) (sp := fun vs H Q E => Sp3 M 1 (defM N.length g) vs H Q E) look code S (fun _ _ _ _ _ _ _ _ _ _ _ z => z) (fun us rest hl => ?_) fun A outer s H vs Q E hr h => ⟨_, (hbody cdv A outer s H E hr).nox, ts_start hN h⟩)).imp fun vs H Q E h => ?_
  · cases us with
    | nil => exact hb kV doc pm cdv ct an rest
    | cons a b => cases hl
  · obtain ⟨F, wd, ds, hd, hw, r, hl, p⟩ := h
    refine ⟨[], vs, rfl, rfl, ?_, fun p0 hp0 => ?_⟩
    · rw [← r.length, hl, SL_eq]; exact hn
    · have gr := Grow.new (o := .tup vs) hd hw hp0
      refine ⟨_, wd, [.tup ds], gr.dom, gr.world, ⟨V.ref p0, [], rfl, ⟨p0, vs, rfl, upd_same, r.mono gr.sub gr.ext⟩, rfl⟩, rfl, ?_⟩
      exact Post.grow gr p
end
end L3

set_option Elab.async false
set_option linter.all false
set_option maxRecDepth 100000
set_option maxHeartbeats 4000000
/-! L3Top: dict displays with text keys; the deck's making; the law's own def. -/
namespace L3
open PySem PySem.Spec PyProof.Rows L2

/-! ### {"a": .., "b": ..} -/
def mseq : List (M3 D) → M3 (List D)
  | [] => anil
  | m :: r => acons m (mseq r)
def trs3 (M : Ms) (ps : List (Str × M3 D)) : List (TE × TE) := ps.map fun p => (tC (.str p.1), T3 M p.2)
def mdisp (ps : List (Str × M3 D)) : M3 D := (mseq (ps.map (·.2))).bind fun ds => if ds.length = ps.length ∧ ps.length ≤ 15 ∧ (ps.map (·.1)).Nodup then M3.ret (.dic false (((ps.map (·.1)).zip ds).map fun q => (.str q.1, q.2))) else fun _ _ => .bad
section
variable {X : Cx} {M : Ms} {B : Bs} {F : FS} {env : Env3} {w : Wd} {σ : Sl} {H : Hp} {pos : Pos}
theorem tp3 : ∀ (ps : List (Str × M3 D)) {F : FS} {w : Wd} {H : Hp} (Q : List (V × V) → Hp → Prop), Cor M B F env w σ H → PostA M F H (mseq (ps.map (·.2)) env w) (fun vs H' => Q ((ps.map fun p : Str × M3 D => V.str p.1).zip vs) H') → tPairs (trs3 M ps) σ H Q
  | [], F, w, H, Q, c, p => p F H [] c.self rfl
  | (k, m) :: r, F, w, H, Q, c, p => by
    show tC (.str k) σ H fun x H1 => T3 M m σ H1 fun y H2 => tPairs (trs3 M r) σ H2 fun qs H3 => Q ((x, y) :: qs) H3
    show T3 M m σ H fun y H2 => tPairs (trs3 M r) σ H2 fun qs H3 => Q ((V.str k, y) :: qs) H3
    refine T3.mono (T3.bind' (kk := fun x => (mseq (r.map fun p : Str × M3 D => p.2)).bind fun xs => M3.ret (x :: xs)) (P := fun z F H => PostA M F H z (fun vs H' => Q ((V.str k :: r.map fun p : Str × M3 D => V.str p.1).zip vs) H')) c p (fun _ _ h => h) fun _ _ _ _ _ _ g p => p.grow g) fun v H1 ⟨F1, w1, d, g1, c1, r1, p1⟩ => ?_
    refine tp3 r _ c1 ?_
    unfold M3.bind at p1
    cases ef : mseq (r.map (·.2)) env w1 with
    | bad => rw [ef] at p1; exact p1
    | ok xs w' =>
      rw [ef] at p1
      exact fun F' H' vs g rr => p1 F' H' (v :: vs) g ⟨v, vs, rfl, RelD.mono g.sub g.ext _ _ r1, rr⟩
theorem mergeK_app : ∀ (kvs acc : List (Key × V)), ((acc ++ kvs).map (·.1)).Nodup → mergeK acc kvs = acc ++ kvs
  | [], acc, _ => (List.append_nil _).symm
  | p :: r, acc, h => by
    show mergeK (putK acc p.1 p.2) r = _
    have hk : valV acc p.1 = none := by
      cases e : valV acc p.1 with
      | none => rfl
      | some v =>
        rw [List.map_append, List.nodup_append] at h
        have : (acc.any fun kv => decide (kv.1 = p.1)) = true := by rw [valV_any, e]; rfl
        rw [List.any_eq_true] at this
        obtain ⟨q, hq, e2⟩ := this
        exact absurd (of_decide_eq_true e2) (h.2.2 _ (List.mem_map_of_mem hq) _ (by simp))
    rw [putK_new _ hk, mergeK_app r _ (by rw [List.append_assoc]; exact h), List.append_assoc]
    rfl
theorem relKs_zip : ∀ {ks : List Str} {ds : List D} {vs : List V}, RelDs M F H ds vs → RelKs M F H ((ks.zip ds).map fun q => (D.str q.1, q.2)) ((ks.zip vs).map fun q => ((.inr q.1 : Key), q.2))
  | [], _, _, _ => rfl
  | k :: ks, [], vs, r => by
    have r : vs = [] := r
    subst r; exact rfl
  | k :: ks, d :: ds, vs, r => by
    obtain ⟨x, xs, rfl, r1, r2⟩ := r
    exact ⟨.inr k, x, _, rfl, rfl, r1, relKs_zip r2⟩
theorem zip_pairs : ∀ (ks : List Str) (vs : List V), (ks.map V.str).zip vs = ((ks.zip vs).map fun q => ((.inr q.1 : Key), q.2)).map fun kv => (kV kv.1, kv.2)
  | [], _ => rfl
  | _ :: _, [] => rfl
  | k :: ks, v :: vs => by
    show (V.str k, v) :: (ks.map V.str).zip vs = _ :: _
    rw [zip_pairs ks vs]
    rfl
theorem e3n_disp {ps : List (Str × M3 D)} {keys : List (Option Expr)} {values : List Expr} (h : PPs X pos keys values (trs3 M ps)) (hall : keys.all (·.isSome) = true := by rfl) (hl : keys.length = values.length := by rfl) (h0 : keys ≠ [] := by intro z; cases z) (h15 : keys.length ≤ 15 := by exact Nat.le_of_ble_eq_true rfl) :
    PE X (.Dict keys values pos) (T3n M (mdisp ps)) := by
  refine PEi (pe_disp h hall hl h0 h15) fun σ H Q hh => ?_
  obtain ⟨B, F, env, w, c, p⟩ := hh
  intro a ha
  obtain ⟨gr, nf, nd⟩ := new_obj (o := .dK []) c ha
  have c1 := c.grow gr
  refine tp3 ps _ c1 ?_
  unfold mdisp M3.bind at p
  cases ef : mseq (ps.map (·.2)) env w with
  | bad => rw [ef] at p; exact p
  | ok ds w' =>
    rw [ef] at p
    dsimp only at p
    split at p
    · rename_i hc
      obtain ⟨h1, h2, h3⟩ := hc
      intro F' H' vs g r
      have hH' : H' a = some (.dK []) := g.keep a _ upd_same nd
      have hlv : vs.length = ps.length := by rw [← r.length]; exact h1
      refine ⟨hH', ((ps.map (·.1)).zip vs).map fun q => ((.inr q.1 : Key), q.2), ?_, ?_, ?_⟩
      · rw [← zip_pairs, List.map_map]; rfl
      · rw [List.length_map, List.length_zip, List.length_map]; omega
      have hm : mergeK [] (((ps.map (·.1)).zip vs).map fun q => ((.inr q.1 : Key), q.2)) = ((ps.map (·.1)).zip vs).map fun q => ((.inr q.1 : Key), q.2) := by
        refine (mergeK_app _ _ ?_).trans (List.nil_append _)
        rw [List.nil_append, List.map_map]
        have e : (((ps.map (·.1)).zip vs).map ((fun x => x.1) ∘ fun q : Str × V => ((.inr q.1 : Key), q.2))) = (ps.map (·.1)).map (fun s => (.inr s : Key)) := by
          have e2 : ((fun x : Key × V => x.1) ∘ fun q : Str × V => ((.inr q.1 : Key), q.2)) = (fun s => (.inr s : Key)) ∘ Prod.fst := rfl
          rw [e2, ← List.map_map, List.map_fst_zip]
          rw [List.length_map]; omega
        rw [e, List.Nodup, List.pairwise_map]
        exact h3.imp fun hne z => hne (Sum.inr.inj z)
      rw [hm]
      have nf' : ¬ F' a := fun z => nf (gr.old a (g.old a z (by rw [upd_same]; simp)) (by
        exact fun e => by
          have := g.old a z (by rw [upd_same]; simp)
          exact nf this))
      have ex : Ext F' H' (upd H' a (.dK (((ps.map (·.1)).zip vs).map fun q => ((.inr q.1 : Key), q.2)))) := .put nf' (fun xs z => by rw [hH'] at z; cases z)
      refine p F' _ a ⟨g.sub, fun b o e n => ?_, fun b f e => g.old b f (by
          have hb : b ≠ a := fun z => nf' (z ▸ f)
          rw [upd_ne hb]; exact e), fun b f => ?_, fun q e => ?_, fun b xs e => ?_⟩ nf' ha nd ⟨_, upd_same, RelKs.mono (fun _ h => h) ex _ _ (relKs_zip r)⟩
      · have hb : b ≠ a := ne_of_none e ha
        rw [upd_ne hb]
        exact g.keep b o (by rw [upd_ne hb]; exact e) n
      · have hb : b ≠ a := fun z => nf' (z ▸ f)
        rw [upd_ne hb]; exact g.dom b f
      · obtain ⟨z1, z2, z3, z4, z5⟩ := g.world q e
        have n1 : q.1 ≠ a := fun z => nd ⟨q, e, .inl z.symm⟩
        have n2 : q.2 ≠ a := fun z => nd ⟨q, e, .inr z.symm⟩
        exact ⟨by rw [upd_ne n1]; exact z1, by rw [upd_ne n2]; exact z2, z3, z4, z5⟩
      · have hb : b ≠ a := ne_of_none e ha
        rw [upd_ne hb]
        exact g.tups b xs (by rw [upd_ne hb]; exact e)
    · exact p.elim
theorem e3_disp {ps : List (Str × M3 D)} {keys : List (Option Expr)} {values : List Expr} (h : PPs X pos keys values (trs3 M ps)) (hall : keys.all (·.isSome) = true := by rfl) (hl : keys.length = values.length := by rfl) (h0 : keys ≠ [] := by intro z; cases z) (h15 : keys.length ≤ 15 := by exact Nat.le_of_ble_eq_true rfl) :
    PE X (.Dict keys values pos) (T3 M (mdisp ps)) := n3 (e3n_disp h hall hl h0 h15) fun env w c ds w' h => by
  unfold mdisp M3.bind at h
  split at h
  · dsimp only at h
    split at h
    · cases h
    · cases h
  · cases h
end

/-! ### the deck's making -/
section
variable {X : Cx}
/-- cells, blend = list(script[:63]), b -/
def tDeck0 (K : PySem.W.Frag) (i j : Nat) (b : Int) : TS := fun D0 σ H => ∃ (a : Addr) (ns : List Int), σ[0]? = some (some (.ref a)) ∧ SqL K H a (ns.map V.int) ∧ ns.length ≤ 63 ∧
  ∀ (l : Addr) (H' : Hp), H l = none → H' l = some (.lst (ns.map V.int)) → (∀ b o, H b = some o → H' b = some o) → D0.nx ((σ.set i (some (.ref l))).set j (some (.int b))) H'
theorem ps_deck0 (i j : Nat) {x y z : Str} {b : Int} {px py pt p1 p2 p3 p4 p5 p6 pz pos : Pos} {j1 j2 : Nat} {kt k2 pt2} (hc : X.calm = true) (hN : X.N.Nodup) (hg : Gl X "list") (hm : X.mg "list" = none) (hi : X.N[i]? = some x := by rfl) (hj : X.N[j]? = some y := by rfl) (hij : i ≠ j := by decide)
    (hz : X.N[0]? = some z := by rfl) (hv : Vis X.env.scope z := by first | exact Or.inl rfl | exact Or.inr (Or.inl rfl) | exact Or.inr (Or.inr rfl)) (hd : (z == ("__debug__" : Str)) = false := by decide) (hcd : (z == ("__classdict__" : Str)) = false := by decide)
    (hx : X.env.scope.names.lookup x = some .local := by rfl) (hy : X.env.scope.names.lookup y = some .local := by rfl)
    (hw : swappedStores [.Tuple [.Name x px, .Name y py] kt pt] (.Tuple [.Call (.Name "list" p1) [.Subscript (.Name z pz) (.Slice none (some (.Constant (.int 63) j1 p2)) none p3) p4] [] p5, .Constant (.int b) j2 p6] k2 pt2) X.env = pure (some [x, y]) := by rfl)
    (hs : swapsWithSole [.Tuple [.Name x px, .Name y py] kt pt] (.Tuple [.Call (.Name "list" p1) [.Subscript (.Name z pz) (.Slice none (some (.Constant (.int 63) j1 p2)) none p3) p4] [] p5, .Constant (.int b) j2 p6] k2 pt2) pos.line X.env = pure false := by rfl) :
    PS X (.Assign [.Tuple [.Name x px, .Name y py] kt pt] (.Tuple [.Call (.Name "list" p1) [.Subscript (.Name z pz) (.Slice none (some (.Constant (.int 63) j1 p2)) none p3) p4] [] p5, .Constant (.int b) j2 p6] k2 pt2) pos) (tDeck0 X.K i j b) := by
  refine PSi (ps_par hc hN hi hj hij hx hy (pa_cons (pe_callTy call_list_of hg hm rfl (pa_cons (pe_slice sl_list (pe_var hz hv hd hcd) po_none (po_some pe_int)) pa_nil)) (pa_cons pe_int pa_nil)) hw hs) fun D0 σ H h => ?_
  obtain ⟨a, ns, h0, hq, hl, k⟩ := h
  refine ⟨.ref a, h0, ?_⟩
  refine ⟨63, rfl, ?_⟩
  refine ⟨a, ns.map V.int, rfl, hq, fun l1 hl1 => ?_⟩
  have ec : cutV (ns.map V.int) none (some 63) = ns.map V.int := by
    unfold cutV
    have e63 : HT.sIx (ns.map V.int).length (ns.map V.int).length (some 63) = min 63 (ns.map V.int).length := HT.sIx_nat _ _ 63
    rw [HT.sIx_none, e63, List.drop_zero, List.length_map]
    exact List.take_of_length_le (by rw [List.length_map]; omega)
  rw [ec]
  refine ⟨l1, ns.map V.int, rfl, .inl (.of upd_same), fun l2 hl2 => ?_⟩
  refine ⟨.ref l2, .int b, rfl, ?_⟩
  have n12 : l1 ≠ l2 := fun z => by subst z; rw [upd_same] at hl2; cases hl2
  refine k l2 _ ?_ upd_same fun b o e => ?_
  · rw [upd_ne n12.symm] at hl2; exact hl2
  · rw [upd_ne (ne_of_none (by rw [upd_ne (ne_of_none e hl1)]; exact e) hl2), upd_ne (ne_of_none e hl1)]; exact e
end
/-- a deck as it is dealt out -/
def Wd.new (w : Wd) : Prop := w.draws = 0 ∧ 0 ≤ w.blend ∧ w.blend < 2147483587 ∧ w.cells.length ≤ 63
def spDeck (K : PySem.W.Frag) : Sp := fun vs H Q _ => ∃ (a : Addr) (ns : List Int), vs = [.ref a] ∧ SqL K H a (ns.map V.int) ∧ ns.length ≤ 63 ∧
  ∀ (w : Wd) (p c : Addr) (H' : Hp), w.new → H p = none → H c = none → p ≠ c → H' p = some (deckO c w) → H' c = some (.lst (w.cells.map V.int)) → (∀ b o, H b = some o → H' b = some o) → Q (.ref p) H'
/-- what the rest of the deck's def computes -/
def deckD (w : Wd) : D := .dic false [(.str "cells", .lst (w.cells.map D.int)), (.str "blend", .int w.blend), (.str "draws", .int w.draws)]
section
variable {P : Program} {w : World} {K : PySem.W.Frag} {mg : Str → Option Value} {base : Heap}
theorem deckFn {cl : Nat → Addr} {nm : Nat → List Str} {k : Nat} {x qual pz y1 y2 y3 : Str} {st s1 s2 : Stmt} {e3 : Expr} {pos3 : Pos} {f : Addr} {fd : FuncData} {g : St3} {fe : M3 D} {b0 : Int} (Fn : Fun K x qual st f fd) (S : FnScope [pz, y1, y2, y3] [pz] (defScope st)) (hst : defBody st = [s1, s2, .Return (some e3) pos3])
    (h1 : ∀ (cdv : Value) (A : Around) (outer : List Env) (s : Shared) (H : Hp), PS (cxOf CX0 P w K mg base [pz, y1, y2, y3] qual (defScope st) f cdv A outer s H E0).nox s1 (tDeck0 K 1 2 b0))
    (h2 : ∀ (cdv : Value) (A : Around) (outer : List Env) (s : Shared) (H : Hp), Room k (A.deeper (envOfC qual (defScope st) s.heap.objs.size f cdv)) → A.guards = some [] → PS (cxOf CX0 P w K mg base [pz, y1, y2, y3] qual (defScope st) f cdv A outer s H E0).nox s2 (TS3 ⟨K, none, cl, nm⟩ g))
    (h3 : ∀ (cdv : Value) (A : Around) (outer : List Env) (s : Shared) (H : Hp), Room k (A.deeper (envOfC qual (defScope st) s.heap.objs.size f cdv)) → A.guards = some [] → PE (cxOf CX0 P w K mg base [pz, y1, y2, y3] qual (defScope st) f cdv A outer s H E0).nox e3 (T3n ⟨K, none, cl, nm⟩ fe))
    (hg : ∀ (ns : List Int) (w0 : Wd), ns.length ≤ 63 → ∃ (w : Wd) (env : Env3), w.new ∧ g [none, some (false, .lst (ns.map D.int)), some (false, .int b0), none] w0 = .nx env w0 ∧ fe env w0 = .ok (deckD w) w0) :
    FnG P w K mg base (k + 1) f fd [pz] (spDeck K) := by
  refine fnG_of Fn S fun cdv A outer s H vs Q hr hgd h => ?_
  rw [hst]
  refine ⟨_, pss_cons (h1 cdv A outer s H) (pss_cons (h2 cdv A outer s H hr hgd) (pss_one (ps_ret (h3 cdv A outer s H hr hgd)))), ?_⟩
  obtain ⟨a, ns, rfl, hq, hl, k⟩ := h
  refine ⟨a, ns, rfl, hq, hl, fun l H' hl0 hl1 hkeep => ?_⟩
  let M0 : Ms := ⟨K, none, cl, nm⟩
  obtain ⟨wd, env2, hw, e, e2⟩ := hg ns ⟨[], 0, 0⟩ hl
  refine ⟨⟨H', fun b => b = l⟩, fun b => b = l, [none, some (false, .lst (ns.map D.int)), some (false, .int b0), none], ⟨[], 0, 0⟩, ?_, ?_⟩
  · refine ⟨⟨fun b e => by have e : b = l := e; subst e; rw [hl1]; simp, (fun p e => by cases e), fun _ _ e _ => e, fun _ f _ => f, fun _ f => f, fun _ _ e => e⟩, rfl, ?_, ?_, ?_⟩
    · intro i d hi
      match i, hi with
      | 0, hi => cases hi
      | 1, hi =>
        cases hi
        exact ⟨_, rfl, l, ns.map V.int, rfl, ⟨rfl, hl1⟩, RelDs.ints⟩
      | 2, hi => cases hi; exact ⟨_, rfl, rfl⟩
      | 3, hi => cases hi
      | n + 4, hi => cases hi
    · intro i d hi
      match i, hi with
      | 0, hi => cases hi
      | 1, hi => cases hi
      | 2, hi => cases hi
      | 3, hi => cases hi
      | n + 4, hi => cases hi
    · intro i j d d2 v hi
      match i, hi with
      | 0, hi => cases hi
      | 1, hi => cases hi
      | 2, hi => cases hi
      | 3, hi => cases hi
      | n + 4, hi => cases hi
  · rw [e]
    intro F1 σ1 H1 c1 m1
    refine ⟨⟨H', fun b => b = l⟩, F1, env2, ⟨[], 0, 0⟩, c1, ?_⟩
    rw [e2]
    intro F2 H2 p gr nfp hp1 nd oc
    obtain ⟨ps, hp, rk⟩ := oc
    have gd := c1.gd.grow gr
    have keep2 : ∀ b o, H' b = some o → H2 b = some o := fun b o e => gd.keep b o e (fun ⟨q, z, _⟩ => by cases z)
    have fresh0 : ∀ b, H' b = none → H b = none := fun b eb => by
      cases e0 : H b with
      | none => rfl
      | some o => rw [hkeep b o e0] at eb; cases eb
    have fresh : ∀ b, F2 b → H b = none := fun b fb => by
      cases eb : H' b with
      | none => exact fresh0 b eb
      | some o =>
        have z : b = l := gd.old b fb (by show H' b ≠ none; rw [eb]; simp)
        rw [z]; exact hl0
    have hp0 : H' p = none := by
      cases eb : H' p with
      | none => rfl
      | some o => rw [c1.gd.keep p o eb (fun ⟨q, z, _⟩ => by cases z)] at hp1; cases hp1
    obtain ⟨q1, x1, t1, rfl, e1, r1, q2, x2, t2, rfl, e2, r2, q3, x3, t3, rfl, e3, r3, e4⟩ := rk
    have e4 : t3 = [] := e4
    subst e4
    obtain ⟨c, xs, rfl, ⟨fc, hc⟩, rl⟩ := r1
    have r2 : x2 = .int wd.blend := r2
    have r3 : x3 = .int wd.draws := r3
    subst r2 r3
    have kd : ∀ {s : Str} {q : Key}, D.str s = keyD q → q = .inr s := fun {s q} e => by
      cases q with
      | inl i => cases e
      | inr z => cases e; rfl
    cases kd e1; cases kd e2; cases kd e3
    have hxs := RelDs.ints_eq rl
    subst hxs
    refine k wd p c H2 hw (fresh0 p hp0) (fresh c fc) (fun z => nfp (z ▸ fc)) hp hc fun b o e => keep2 b o (hkeep b o e)
/-- the law's own: a list of at most 63 ints is handed in, True comes out -/
def spLaw (K : PySem.W.Frag) : Sp := fun vs H Q _ => ∃ (a : Addr) (ns : List Int), vs = [.ref a] ∧ SqL K H a (ns.map V.int) ∧ ns.length ≤ 63 ∧ ∀ H', Q (.bl true) H'
theorem lawFn {cl : Nat → Addr} {nm : Nat → List Str} {kd k N0 : Nat} {x qual pz y1 : Str} {Nr : List Str} {st : Stmt} {fD : Addr} {f : Addr} {fd : FuncData} {rest : List Stmt} {g : St3} {xd : Str} {px pc p1 pos sp : Pos} (Fn : Fun K x qual st f fd) (S : FnScope (pz :: y1 :: Nr) [pz] (defScope st))
    (hst : defBody st = .Assign [.Name y1 px] (.Call (.Name xd p1) [.Name pz pc] [] pos) sp :: rest) (hN0 : Nr.length = N0)
    (hD : PosG P w K mg base kd fD (spDeck K)) (hkd : kd ≤ k) (hm : mg xd = some (.ref fD)) (hkp : PySem.W.keepIn K (.ref fD) = true) (hdb : (xd == ("__debug__" : Str)) = false) (hpz : (pz == ("__debug__" : Str)) = false) (hpc : (pz == ("__classdict__" : Str)) = false)
    (hgl : ∀ (cdv : Value) (A : Around) (outer : List Env) (s : Shared) (H : Hp), Gl (cxOf CX0 P w K mg base (pz :: y1 :: Nr) qual (defScope st) f cdv A outer s H E0).nox xd) (hvz : Vis (defScope st) pz) (hly : Loc (defScope st) y1)
    (hsw : ∀ (cdv : Value) (A : Around) (outer : List Env) (s : Shared) (H : Hp), swapsWith (.Call (.Name xd p1) [.Name pz pc] [] pos) (some (.Name y1 px)) sp.line (cxOf CX0 P w K mg base (pz :: y1 :: Nr) qual (defScope st) f cdv A outer s H E0).nox.env = pure false)
    (h2 : ∀ (dk : Option (Addr × Addr)) (cdv : Value) (A : Around) (outer : List Env) (s : Shared) (H : Hp), Room k (A.deeper (envOfC qual (defScope st) s.heap.objs.size f cdv)) → A.guards = some [] → PSs (cxOf CX0 P w K mg base (pz :: y1 :: Nr) qual (defScope st) f cdv A outer s H E0).nox rest (TS3 ⟨K, dk, cl, nm⟩ g))
    (hg : ∀ w0 : Wd, w0.new → ∃ w1, g (none :: some (false, .deck) :: List.replicate N0 none) w0 = .ret (.bl true) w1) :
    FnG P w K mg base (k + 1) f fd [pz] (spLaw K) := by
  refine fnG_of Fn S fun cdv A outer s H vs Q hr hgd h => ?_
  rw [hst]
  have a1 : ∀ dk, PSs (cxOf CX0 P w K mg base (pz :: y1 :: Nr) qual (defScope st) f cdv A outer s H E0).nox rest (TS3 ⟨K, dk, cl, nm⟩ g) := fun dk => h2 dk cdv A outer s H hr hgd
  have a2 : PSs (cxOf CX0 P w K mg base (pz :: y1 :: Nr) qual (defScope st) f cdv A outer s H E0).nox rest (fun D0 σ H => ∃ dk, TS3 ⟨K, dk, cl, nm⟩ g D0 σ H) := ⟨fun pins s σ H D0 I ⟨dk, q⟩ => (a1 dk).run pins s σ H D0 I q⟩
  refine ⟨_, pss_cons (ps_set S.nd (i := 1) rfl hly (g_call hD (hr.mono hkd) hgd (hgl cdv A outer s H) hm hkp (pa_cons (pe_var (i := 0) rfl hvz hpz hpc) pa_nil) hdb) (hsw cdv A outer s H)) a2, ?_⟩
  obtain ⟨a, ns, rfl, hq, hl, k⟩ := h
  refine ⟨.ref a, rfl, a, ns, rfl, hq, hl, fun wd p c H' hw hp hc hpc h1 h2' hkeep => ?_⟩
  obtain ⟨w1, e⟩ := hg wd hw
  refine ⟨some (p, c), ⟨H', fun _ => False⟩, fun _ => False, none :: some (false, .deck) :: List.replicate N0 none, wd, ?_, ?_⟩
  · refine ⟨⟨fun b e => e.elim, fun q e => by cases e; exact ⟨h1, h2', fun z => z, fun z => z, hpc⟩, fun _ _ e _ => e, fun _ f _ => f, fun _ f => f, fun _ _ e => e⟩, ?_, ?_, ?_, ?_⟩
    · unfold L2.start
      simp [hN0]
    · intro i d hi
      match i, hi with
      | 0, hi => cases hi
      | 1, hi => cases hi; exact ⟨_, rfl, (p, c), rfl, rfl⟩
      | n + 2, hi =>
        have hi : (List.replicate N0 none)[n]? = some (some (false, d)) := hi
        rw [List.getElem?_replicate] at hi
        split at hi <;> cases hi
    · intro i d hi
      match i, hi with
      | 0, hi => cases hi
      | 1, hi => cases hi
      | n + 2, hi =>
        have hi : (List.replicate N0 none)[n]? = some (some (true, d)) := hi
        rw [List.getElem?_replicate] at hi
        split at hi <;> cases hi
    · intro i j d d2 v hi
      match i, hi with
      | 0, hi => cases hi
      | 1, hi => cases hi
      | n + 2, hi =>
        have hi : (List.replicate N0 none)[n]? = some (some (true, d)) := hi
        rw [List.getElem?_replicate] at hi
        split at hi <;> cases hi
  · rw [e]
    intro F2 H2 v gd mo r
    have r : v = .bl true := r
    subst r
    exact k H2
end
end L3

set_option Elab.async false
set_option linter.all false
set_option maxRecDepth 100000
set_option maxHeartbeats 4000000
/-! L3Wp: what must hold ahead, for the plain functions (no program here). -/
namespace L3
open PySem PySem.Spec PyProof.Rows L2

def Ok {α : Type} (r : R3 α) (P : α → Wd → Prop) : Prop := match r with
  | .ok a w => P a w
  | .bad => False
def Sx (r : S3) (N C B : Env3 → Wd → Prop) (R : D → Wd → Prop) : Prop := match r with
  | .nx e w => N e w
  | .ct e w => C e w
  | .bk e w => B e w
  | .ret d w => R d w
  | .bad => False
abbrev no2 : Env3 → Wd → Prop := fun _ _ => False
section
variable {α : Type} {env : Env3} {w : Wd}
theorem Ok.mono {r : R3 α} {P P' : α → Wd → Prop} (h : Ok r P) (i : ∀ a w, P a w → P' a w) : Ok r P' := by
  cases r with
  | ok a w => exact i a w h
  | bad => exact h
theorem Ok.ex {r : R3 α} {P : α → Wd → Prop} (h : Ok r P) : ∃ a w, r = .ok a w ∧ P a w := by
  cases r with
  | ok a w => exact ⟨a, w, rfl, h⟩
  | bad => exact h.elim
theorem Sx.mono {r : S3} {N C B N' C' B' : Env3 → Wd → Prop} {R R' : D → Wd → Prop} (h : Sx r N C B R) (iN : ∀ e w, N e w → N' e w) (iC : ∀ e w, C e w → C' e w) (iB : ∀ e w, B e w → B' e w) (iR : ∀ e w, R e w → R' e w) : Sx r N' C' B' R' := by
  cases r with
  | nx e w => exact iN e w h
  | ct e w => exact iC e w h
  | bk e w => exact iB e w h
  | ret e w => exact iR e w h
  | bad => exact h
theorem wp_ok {a : α} {P : α → Wd → Prop} : Ok (.ok a w) P ↔ P a w := Iff.rfl
theorem wp_bind {β : Type} {f : M3 α} {k : α → M3 β} {P : β → Wd → Prop} : Ok ((f.bind k) env w) P ↔ Ok (f env w) fun a w' => Ok (k a env w') P := by
  unfold M3.bind
  cases f env w <;> exact Iff.rfl
theorem wp_ret {a : α} {P : α → Wd → Prop} : Ok (M3.ret a env w) P ↔ P a w := Iff.rfl
theorem wp_opt {a : Option α} {P : α → Wd → Prop} : Ok (M3.opt a env w) P ↔ ∃ x, a = some x ∧ P x w := by
  unfold M3.opt
  cases a with
  | none => exact ⟨fun h => h.elim, fun ⟨x, e, _⟩ => by cases e⟩
  | some a => exact ⟨fun h => ⟨a, rfl, h⟩, fun ⟨x, e, h⟩ => by cases e; exact h⟩
variable {P : D → Wd → Prop} {PB : Bool → Wd → Prop} {PL : List D → Wd → Prop} {PO : Option Int → Wd → Prop} {f fa fb : M3 D} {ga gb : M3 Bool} {fs : M3 (List D)} {g : D → D → Option D} {d : D} {i j n : Nat}
theorem wp_cst : Ok (cst d env w) P ↔ P d w := Iff.rfl
theorem wp_evar : Ok (evar i env w) P ↔ ∃ d, env[i]? = some (some (false, d)) ∧ P d w := by
  unfold evar
  split
  · rename_i d e
    exact ⟨fun h => ⟨d, e, h⟩, fun ⟨d', e', h⟩ => by rw [e] at e'; cases e'; exact h⟩
  · rename_i ne
    exact ⟨fun h => h.elim, fun ⟨d, e, h⟩ => ne d e⟩
theorem wp_evarB : Ok (evarB i env w) P ↔ ∃ o d, env[i]? = some (some (o, d)) ∧ P d w := by
  unfold evarB
  split
  · rename_i o d e
    exact ⟨fun h => ⟨o, d, e, h⟩, fun ⟨o', d', e', h⟩ => by rw [e] at e'; cases e'; exact h⟩
  · rename_i ne
    exact ⟨fun h => h.elim, fun ⟨o, d, e, h⟩ => ne o d e⟩
theorem wp_m2 : Ok (m2 g fa fb env w) P ↔ Ok (fa env w) fun a w1 => Ok (fb env w1) fun b w2 => ∃ d, g a b = some d ∧ P d w2 := by
  unfold m2; simp only [wp_bind, wp_opt]
theorem wp_mC {g : List D → Option D} : Ok (mC g fs env w) P ↔ Ok (fs env w) fun a w1 => ∃ d, g a = some d ∧ P d w1 := by
  unfold mC; simp only [wp_bind, wp_opt]
theorem wp_mM {g : D → List D → Option D} : Ok (mM g f fs env w) P ↔ Ok (f env w) fun a w1 => Ok (fs env w1) fun b w2 => ∃ d, g a b = some d ∧ P d w2 := by
  unfold mM; simp only [wp_bind, wp_opt]
theorem wp_anil : Ok (anil env w) PL ↔ PL [] w := Iff.rfl
theorem wp_acons : Ok (acons f fs env w) PL ↔ Ok (f env w) fun a w1 => Ok (fs env w1) fun b w2 => PL (a :: b) w2 := by
  unfold acons; simp only [wp_bind, wp_ret]
theorem wp_mtup : Ok (mtup fs env w) P ↔ Ok (fs env w) fun ds w => ds.length ≤ SL ∧ P (.tup ds) w := by
  unfold mtup; simp only [wp_bind]
  cases fs env w with
  | bad => exact Iff.rfl
  | ok ds w => show Ok ((if _ then _ else _ : M3 D) env w) P ↔ _; split
               · rename_i h; exact ⟨fun q => ⟨h, q⟩, fun q => q.2⟩
               · rename_i h; exact ⟨fun q => q.elim, fun q => h q.1⟩
theorem wp_mlst : Ok (mlst fs env w) P ↔ Ok (fs env w) fun ds w => ds.length ≤ SL ∧ P (.lst ds) w := by
  unfold mlst; simp only [wp_bind]
  cases fs env w with
  | bad => exact Iff.rfl
  | ok ds w => show Ok ((if _ then _ else _ : M3 D) env w) P ↔ _; split
               · rename_i h; exact ⟨fun q => ⟨h, q⟩, fun q => q.2⟩
               · rename_i h; exact ⟨fun q => q.elim, fun q => h q.1⟩
theorem wp_onone : Ok (onone env w) PO ↔ PO none w := Iff.rfl
theorem wp_osome : Ok (osome f env w) PO ↔ Ok (f env w) fun d w => ∃ i, d = .int i ∧ PO (some i) w := by
  unfold osome; simp only [wp_bind]
  cases f env w with
  | bad => exact Iff.rfl
  | ok d w => cases d with
    | int i => exact ⟨fun q => ⟨i, rfl, q⟩, fun ⟨j, e, q⟩ => by cases e; exact q⟩
    | _ => exact ⟨fun q => q.elim, fun ⟨j, e, q⟩ => by cases e⟩
theorem wp_msl {lo hi : M3 (Option Int)} : Ok (msl f lo hi env w) P ↔ Ok (f env w) fun x w => Ok (lo env w) fun l w => Ok (hi env w) fun u w => ∃ d, dSl x l u = some d ∧ P d w := by
  unfold msl; simp only [wp_bind, wp_opt]
theorem wp_mneg : Ok (mneg f env w) P ↔ Ok (f env w) fun x w => ∃ d, dNeg x = some d ∧ P d w := by
  unfold mneg; simp only [wp_bind, wp_opt]
theorem wp_mrevL : Ok (mrevL f env w) P ↔ Ok (f env w) fun x w => ∃ d, dRevL x = some d ∧ P d w := by
  unfold mrevL; simp only [wp_bind, wp_opt]
theorem wp_mlenSet : Ok (mlenSet f env w) P ↔ Ok (f env w) fun x w => ∃ d, dLenSet x = some d ∧ P d w := by
  unfold mlenSet; simp only [wp_bind, wp_opt]
theorem wp_misi {T : String} : Ok (misi T f env w) P ↔ Ok (f env w) fun x w => ∃ d, dIsi T x = some d ∧ P d w := by
  unfold misi; simp only [wp_bind, wp_opt]
theorem wp_tst : Ok (tst f env w) PB ↔ Ok (f env w) fun d w => ∃ b, d = .bl b ∧ PB b w := by
  unfold tst; simp only [wp_bind]
  cases f env w with
  | bad => exact Iff.rfl
  | ok d w => cases d with
    | bl i => exact ⟨fun q => ⟨i, rfl, q⟩, fun ⟨j, e, q⟩ => by cases e; exact q⟩
    | _ => exact ⟨fun q => q.elim, fun ⟨j, e, q⟩ => by cases e⟩
theorem wp_tru : Ok (tru f env w) PB ↔ Ok (f env w) fun d w => ∃ b, dTru d = some b ∧ PB b w := by
  unfold tru; simp only [wp_bind, wp_opt]
theorem wp_tyes : Ok (tyes env w) PB ↔ PB true w := Iff.rfl
theorem wp_tand : Ok (tand ga gb env w) PB ↔ Ok (ga env w) fun c w => (c = true → Ok (gb env w) PB) ∧ (c = false → PB false w) := by
  unfold tand; simp only [wp_bind]
  cases ga env w with
  | bad => exact Iff.rfl
  | ok c w => cases c <;> simp [Ok, M3.ret]
theorem wp_tor : Ok (tor ga gb env w) PB ↔ Ok (ga env w) fun c w => (c = true → PB true w) ∧ (c = false → Ok (gb env w) PB) := by
  unfold tor; simp only [wp_bind]
  cases ga env w with
  | bad => exact Iff.rfl
  | ok c w => cases c <;> simp [Ok, M3.ret]
theorem wp_tnot : Ok (tnot ga env w) PB ↔ Ok (ga env w) fun c w => PB (!c) w := by
  unfold tnot; simp only [wp_bind, wp_ret]
theorem wp_vand : Ok (vand fa fb env w) P ↔ Ok (fa env w) fun d w => ∃ c, d = .bl c ∧ (c = true → Ok (fb env w) P) ∧ (c = false → P (.bl false) w) := by
  unfold vand; simp only [wp_bind]
  cases fa env w with
  | bad => exact Iff.rfl
  | ok d w => cases d with
    | bl c => cases c <;> simp [Ok, M3.ret]
    | _ => exact ⟨fun q => q.elim, fun ⟨j, e, q⟩ => by cases e⟩
theorem wp_vor : Ok (vor fa fb env w) P ↔ Ok (fa env w) fun d w => ∃ c, d = .bl c ∧ (c = true → P (.bl true) w) ∧ (c = false → Ok (fb env w) P) := by
  unfold vor; simp only [wp_bind]
  cases fa env w with
  | bad => exact Iff.rfl
  | ok d w => cases d with
    | bl c => cases c <;> simp [Ok, M3.ret]
    | _ => exact ⟨fun q => q.elim, fun ⟨j, e, q⟩ => by cases e⟩
theorem wp_vnot : Ok (vnot f env w) P ↔ Ok (f env w) fun d w => ∃ c, d = .bl c ∧ P (.bl !c) w := by
  unfold vnot; simp only [wp_bind]
  cases f env w with
  | bad => exact Iff.rfl
  | ok d w => cases d with
    | bl c => cases c <;> simp [Ok, M3.ret]
    | _ => exact ⟨fun q => q.elim, fun ⟨j, e, q⟩ => by cases e⟩
theorem wp_vif : Ok (vif ga fa fb env w) P ↔ Ok (ga env w) fun c w => (c = true → Ok (fa env w) P) ∧ (c = false → Ok (fb env w) P) := by
  unfold vif; simp only [wp_bind]
  cases ga env w with
  | bad => exact Iff.rfl
  | ok c w => cases c <;> simp [Ok]
theorem wp_callM {m : Fun3} : Ok (callM m n fs env w) P ↔ Ok (fs env w) fun ds w => ds.length = n ∧ Ok (m ds w) P := by
  unfold callM; simp only [wp_bind]
  cases fs env w with
  | bad => exact Iff.rfl
  | ok ds w => show Ok (if _ then _ else _) P ↔ _; split
               · rename_i h; exact ⟨fun q => ⟨h, q⟩, fun q => q.2⟩
               · rename_i h; exact ⟨fun q => q.elim, fun q => h q.1⟩
theorem wp_kwM {m : Fun3} {g : {α : Type} → List α → List α} : Ok (kwM m n g fs env w) P ↔ Ok (fs env w) fun ds w => (g ds).length = n ∧ Ok (m (g ds) w) P := by
  unfold kwM; simp only [wp_bind]
  cases fs env w with
  | bad => exact Iff.rfl
  | ok ds w => show Ok (if _ then _ else _) P ↔ _; split
               · rename_i h; exact ⟨fun q => ⟨h, q⟩, fun q => q.2⟩
               · rename_i h; exact ⟨fun q => q.elim, fun q => h q.1⟩
theorem wp_dkInt {h : Wd → Int} : Ok (dkInt i h env w) P ↔ isDeckAt env i = true ∧ P (.int (h w)) w := by
  unfold dkInt
  split
  · rename_i h; exact ⟨fun q => ⟨h, q⟩, fun q => q.2⟩
  · rename_i h; exact ⟨fun q => q.elim, fun q => h q.1⟩
theorem wp_tCells : Ok (tCells i env w) PB ↔ isDeckAt env i = true ∧ w.cells.length ≤ 1000 ∧ PB (!w.cells.isEmpty) w := by
  unfold tCells
  split
  · rename_i h
    rw [Bool.and_eq_true, decide_eq_true_eq] at h
    exact ⟨fun q => ⟨h.1, h.2, q⟩, fun q => q.2.2⟩
  · rename_i h
    rw [Bool.and_eq_true, decide_eq_true_eq] at h
    exact ⟨fun q => q.elim, fun q => h ⟨q.1, q.2.1⟩⟩
theorem wp_iseq : Ok (iseq f env w) PL ↔ Ok (f env w) fun d w => ∃ ds, d = .lst ds ∧ PL ds w := by
  unfold iseq; simp only [wp_bind]
  cases f env w with
  | bad => exact Iff.rfl
  | ok d w => cases d with
    | lst i => exact ⟨fun q => ⟨i, rfl, q⟩, fun ⟨j, e, q⟩ => by cases e; exact q⟩
    | _ => exact ⟨fun q => q.elim, fun ⟨j, e, q⟩ => by cases e⟩
theorem wp_itup : Ok (itup f env w) PL ↔ Ok (f env w) fun d w => ∃ ds, d = .tup ds ∧ PL ds w := by
  unfold itup; simp only [wp_bind]
  cases f env w with
  | bad => exact Iff.rfl
  | ok d w => cases d with
    | tup i => exact ⟨fun q => ⟨i, rfl, q⟩, fun ⟨j, e, q⟩ => by cases e; exact q⟩
    | _ => exact ⟨fun q => q.elim, fun ⟨j, e, q⟩ => by cases e⟩
theorem wp_istr : Ok (istr f env w) PL ↔ Ok (f env w) fun d w => ∃ z : Str, d = .str z ∧ PL (z.cps.toList.map fun c => .str (sgn c)) w := by
  unfold istr; simp only [wp_bind]
  cases f env w with
  | bad => exact Iff.rfl
  | ok d w => cases d with
    | str i => exact ⟨fun q => ⟨i, rfl, q⟩, fun ⟨j, e, q⟩ => by cases e; exact q⟩
    | _ => exact ⟨fun q => q.elim, fun ⟨j, e, q⟩ => by cases e⟩
theorem wp_irng1 : Ok (irng1 fs env w) PL ↔ Ok (fs env w) fun ds w => ∃ j : Int, ds = [.int j] ∧ -(2 ^ 62) ≤ j ∧ j < 2 ^ 62 ∧ PL ((List.range j.toNat).map fun i : Nat => .int i) w := by
  unfold irng1; simp only [wp_bind]
  cases fs env w with
  | bad => exact Iff.rfl
  | ok ds w =>
    show Ok ((match ds with | [.int j] => _ | _ => _ : M3 (List D)) env w) PL ↔ _
    split
    · rename_i j
      split
      · rename_i h; exact ⟨fun q => ⟨j, rfl, h.1, h.2, q⟩, fun ⟨k, e, _, _, q⟩ => by cases e; exact q⟩
      · rename_i h; exact ⟨fun q => q.elim, fun ⟨k, e, h1, h2, q⟩ => by cases e; exact h ⟨h1, h2⟩⟩
    · rename_i ne
      exact ⟨fun q => q.elim, fun ⟨k, e, _⟩ => ne k e⟩
theorem wp_defM {g : St3} {ds : List D} : Ok (defM n g ds w) P ↔ Sx (g (env0 n ds) w) (fun _ w => P .non w) no2 no2 P := by
  unfold defM
  cases g (env0 n ds) w <;> exact Iff.rfl
theorem wp_starM {m : Fun3} {ds : List D} : Ok (starM m ds w) P ↔ Ok (m [.tup ds] w) P := Iff.rfl
variable {N C B : Env3 → Wd → Prop} {R : D → Wd → Prop} {s t : St3} {G : G3}
theorem wp_snil : Sx (snil env w) N C B R ↔ N env w := Iff.rfl
theorem wp_sseq : Sx (sseq s t env w) N C B R ↔ Sx (s env w) (fun e w => Sx (t e w) N C B R) C B R := by
  unfold sseq
  cases s env w <;> exact Iff.rfl
theorem wp_sret : Sx (sret f env w) N C B R ↔ Ok (f env w) R := by
  unfold sret
  cases f env w <;> exact Iff.rfl
theorem wp_sdrop : Sx (sdrop f env w) N C B R ↔ Ok (f env w) fun _ w => N env w := by
  unfold sdrop
  cases f env w <;> exact Iff.rfl
theorem wp_sif : Sx (sif ga s t env w) N C B R ↔ Ok (ga env w) fun c w => (c = true → Sx (s env w) N C B R) ∧ (c = false → Sx (t env w) N C B R) := by
  unfold sif
  cases ga env w with
  | bad => exact Iff.rfl
  | ok c w => cases c <;> simp [Ok]
theorem wp_sasg : Sx (sasg f G env w) N C B R ↔ Ok (f env w) fun d w => ∃ e, G d env = some e ∧ N e w := by
  unfold sasg
  cases f env w with
  | bad => exact Iff.rfl
  | ok d w =>
    show Sx (match G d env with | some e => .nx e w | none => .bad) N C B R ↔ ∃ e, G d env = some e ∧ N e w
    cases G d env with
    | none => exact ⟨fun q => q.elim, fun ⟨e, h, _⟩ => by cases h⟩
    | some e => exact ⟨fun q => ⟨e, rfl, q⟩, fun ⟨e', h, q⟩ => by cases h; exact q⟩
theorem gn_iff {e : Env3} : gn i d env = some e ↔ i < env.length ∧ e = env.set i (some (false, d)) := by
  unfold gn
  split
  · rename_i h; exact ⟨fun q => by cases q; exact ⟨h, rfl⟩, fun ⟨_, q⟩ => by rw [q]⟩
  · rename_i h; exact ⟨fun q => (by cases q), fun ⟨q, _⟩ => absurd q h⟩
theorem wp_set : Sx (sasg f (gn i) env w) N C B R ↔ Ok (f env w) fun d w => i < env.length ∧ N (env.set i (some (false, d))) w := by
  rw [wp_sasg]
  simp only [gn_iff]
  constructor
  · exact fun h => h.mono fun a w ⟨e, ⟨h1, h2⟩, h3⟩ => ⟨h1, h2 ▸ h3⟩
  · exact fun h => h.mono fun a w ⟨h1, h3⟩ => ⟨_, ⟨h1, rfl⟩, h3⟩
theorem wp_saug : Sx (saug i g f env w) N C B R ↔ Ok (evar i env w) fun a w => Ok (f env w) fun b w => ∃ d, g a b = some d ∧ i < env.length ∧ N (env.set i (some (false, d))) w := by
  unfold saug
  rw [wp_set, wp_m2]
theorem wp_spar : Sx (spar i j fs env w) N C B R ↔ Ok (fs env w) fun ds w => ∃ a b, ds = [a, b] ∧ i < env.length ∧ j < env.length ∧ N ((env.set i (some (false, a))).set j (some (false, b))) w := by
  unfold spar
  cases fs env w with
  | bad => exact Iff.rfl
  | ok ds w =>
    match ds with
    | [a, b] =>
      dsimp only
      split
      · rename_i h; exact ⟨fun q => ⟨a, b, rfl, h.1, h.2, q⟩, fun ⟨_, _, e, _, _, q⟩ => by cases e; exact q⟩
      · rename_i h; exact ⟨fun q => q.elim, fun ⟨_, _, e, h1, h2, q⟩ => h ⟨h1, h2⟩⟩
    | [] => exact ⟨fun q => q.elim, fun ⟨_, _, e, _⟩ => by cases e⟩
    | [_] => exact ⟨fun q => q.elim, fun ⟨_, _, e, _⟩ => by cases e⟩
    | _ :: _ :: _ :: _ => exact ⟨fun q => q.elim, fun ⟨_, _, e, _⟩ => by cases e⟩
theorem wp_son : Sx (son i f env w) N C B R ↔ Ok (f env w) fun d w => i < env.length ∧ N (env.set i (some (true, d))) w := by
  unfold son
  cases f env w with
  | bad => exact Iff.rfl
  | ok d w =>
    dsimp only
    split
    · rename_i h; exact ⟨fun q => ⟨h, q⟩, fun q => q.2⟩
    · rename_i h; exact ⟨fun q => q.elim, fun q => h q.1⟩
theorem wp_sapp : Sx (sapp i f env w) N C B R ↔ ∃ ds, env[i]? = some (some (true, .lst ds)) ∧ Ok (f env w) fun d w => ds.length < SL ∧ N (env.set i (some (true, .lst (ds ++ [d])))) w := by
  unfold sapp
  split
  · rename_i ds e
    cases f env w with
    | bad => exact ⟨fun q => q.elim, fun ⟨_, _, q⟩ => q⟩
    | ok d w =>
      dsimp only
      split
      · rename_i h; exact ⟨fun q => ⟨ds, e, h, q⟩, fun ⟨ds', e', h, q⟩ => by rw [e] at e'; cases e'; exact q⟩
      · rename_i h; exact ⟨fun q => q.elim, fun ⟨ds', e', h1, q⟩ => by rw [e] at e'; cases e'; exact h h1⟩
  · rename_i ne; exact ⟨fun q => q.elim, fun ⟨ds, e, _⟩ => ne ds e⟩
theorem wp_sDraws : Sx (sDraws i f env w) N C B R ↔ Ok (f env w) fun d w => ∃ n : Int, d = .int n ∧ isDeckAt env i = true ∧ N env { w with draws := n } := by
  unfold sDraws
  cases f env w with
  | bad => exact Iff.rfl
  | ok d w => cases d with
    | int n =>
      dsimp only
      split
      · rename_i h; exact ⟨fun q => ⟨n, rfl, h, q⟩, fun ⟨_, e, _, q⟩ => by cases e; exact q⟩
      · rename_i h; exact ⟨fun q => q.elim, fun ⟨_, _, q, _⟩ => h q⟩
    | _ => exact ⟨fun q => q.elim, fun ⟨j, e, q⟩ => by cases e⟩
theorem wp_sPop : Sx (sPop i j env w) N C B R ↔ isDeckAt env i = true ∧ j < env.length ∧ ∃ n, w.cells.getLast? = some n ∧ N (env.set j (some (false, .int n))) { w with cells := w.cells.dropLast } := by
  unfold sPop
  split
  · rename_i h
    rw [Bool.and_eq_true, decide_eq_true_eq] at h
    cases e : w.cells.getLast? with
    | none => exact ⟨fun q => q.elim, fun ⟨_, _, n, e, _⟩ => by cases e⟩
    | some n => exact ⟨fun q => ⟨h.1, h.2, n, rfl, q⟩, fun ⟨_, _, n, e, q⟩ => by cases e; exact q⟩
  · rename_i h
    rw [Bool.and_eq_true, decide_eq_true_eq] at h
    exact ⟨fun q => q.elim, fun ⟨h1, h2, _⟩ => h ⟨h1, h2⟩⟩
theorem wp_sPush : Sx (sPush i f env w) N C B R ↔ isDeckAt env i = true ∧ Ok (f env w) fun d w => ∃ n : Int, d = .int n ∧ w.cells.length < 1000 ∧ N env { w with cells := w.cells ++ [n] } := by
  unfold sPush
  split
  · rename_i h
    cases f env w with
    | bad => exact ⟨fun q => q.elim, fun ⟨_, q⟩ => q⟩
    | ok d w => cases d with
      | int n =>
        dsimp only
        split
        · rename_i h2; exact ⟨fun q => ⟨h, n, rfl, h2, q⟩, fun ⟨_, _, e, _, q⟩ => by cases e; exact q⟩
        · rename_i h2; exact ⟨fun q => q.elim, fun ⟨_, _, _, q, _⟩ => h2 q⟩
      | _ => exact ⟨fun q => q.elim, fun ⟨_, j, e, q⟩ => by cases e⟩
  · rename_i h; exact ⟨fun q => q.elim, fun q => h q.1⟩
theorem wp_sfor : Sx (sfor fs G s env w) N C B R ↔ Ok (fs env w) fun ds w => Sx (forL G s ds env w) N C B R := by
  unfold sfor
  cases fs env w <;> exact Iff.rfl
/-- a for loop, by what holds after each item -/
theorem for_inv (J : List D → Env3 → Wd → Prop) {ds : List D} (h0 : J [] env w) (hs : ∀ (pre post : List D) (d : D) (e : Env3) (w : Wd), ds = pre ++ d :: post → J pre e w → ∃ e', G d e = some e' ∧ Sx (s e' w) (J (pre ++ [d])) (J (pre ++ [d])) N R) (hN : ∀ e w, J ds e w → N e w) : Sx (forL G s ds env w) N C B R := by
  suffices h : ∀ (post pre : List D) (e : Env3) (w : Wd), ds = pre ++ post → J pre e w → Sx (forL G s post e w) N C B R from h ds [] env w rfl h0
  intro post
  induction post with
  | nil =>
    intro pre e w eq h
    rw [List.append_nil] at eq
    exact hN e w (eq ▸ h)
  | cons d post ih =>
    intro pre e w eq h
    obtain ⟨e', eg, q⟩ := hs pre post d e w eq h
    unfold forL
    rw [eg]
    dsimp only
    cases es : s e' w with
    | nx e2 w2 => rw [es] at q; exact ih (pre ++ [d]) e2 w2 (by rw [eq]; simp) q
    | ct e2 w2 => rw [es] at q; exact ih (pre ++ [d]) e2 w2 (by rw [eq]; simp) q
    | bk e2 w2 => rw [es] at q; exact q
    | ret d2 w2 => rw [es] at q; exact q
    | bad => rw [es] at q; exact q
/-- a while loop, by a measure and what holds ahead of each turn -/
theorem while_inv (J : Nat → Env3 → Wd → Prop) (hs : ∀ (k : Nat) (e : Env3) (w : Wd), J k e w → Ok (ga e w) fun c w' => (c = true → ∃ k', k = k' + 1 ∧ Sx (s e w') (J k') (J k') N R) ∧ (c = false → N e w')) : ∀ (n k : Nat) (env : Env3) (w : Wd), k < n → J k env w → Sx (swhile ga s n env w) N C B R
  | 0, k, env, w, hk, _ => absurd hk (Nat.not_lt_zero _)
  | n + 1, k, env, w, hk, h => by
    have q := hs k env w h
    unfold swhile
    cases eg : ga env w with
    | bad => rw [eg] at q; exact q
    | ok c w' =>
      rw [eg] at q
      cases c with
      | false => exact q.2 rfl
      | true =>
        obtain ⟨k', hk', q2⟩ := q.1 rfl
        subst hk'
        dsimp only
        cases es : s env w' with
        | nx e2 w2 => rw [es] at q2; exact while_inv J hs n k' e2 w2 (by omega) q2
        | ct e2 w2 => rw [es] at q2; exact while_inv J hs n k' e2 w2 (by omega) q2
        | bk e2 w2 => rw [es] at q2; exact q2
        | ret d2 w2 => rw [es] at q2; exact q2
        | bad => rw [es] at q2; exact q2
/-- [f for x in it] (x stands in slot i) -/
theorem lc_inv (J : List D → List D → Wd → Prop) (hit : Ok (fs env w) fun ds w0 => ds.length ≤ SL ∧ J [] [] w0 ∧ i < env.length ∧ (∀ (pre post acc : List D) (d : D) (w : Wd), ds = pre ++ d :: post → J pre acc w → Ok (f (env.set i (some (false, d))) w) fun y w' => J (pre ++ [d]) (acc ++ [y]) w') ∧ ∀ acc w, J ds acc w → P (.lst acc) w) :
    Ok (mlc fs (gn i) tyes f [i] env w) P := by
  unfold mlc
  cases ef : fs env w with
  | bad => rw [ef] at hit; exact hit
  | ok ds w0 =>
    rw [ef] at hit
    obtain ⟨hl, h0, hi, hs, hP⟩ := hit
    dsimp only
    suffices h : ∀ (post pre acc : List D) (w : Wd), ds = pre ++ post → acc.length = pre.length → J pre acc w → Ok (lcL (gn i) tyes f [i] post env w acc) fun acc w => J ds acc w by
      have z := h ds [] [] w0 rfl rfl h0
      cases el : lcL (gn i) tyes f [i] ds env w0 [] with
      | bad => rw [el] at z; exact z
      | ok xs w2 => rw [el] at z; exact hP xs w2 z
    intro post
    induction post with
    | nil =>
      intro pre acc w eq _ h
      rw [List.append_nil] at eq
      subst eq
      exact h
    | cons d post ih =>
      intro pre acc w eq ha h
      have q := hs pre post acc d w eq h
      unfold lcL
      have eg : gn i d (wipeE env [i]) = some (env.set i (some (false, d))) := by
        show gn i d (env.set i none) = _
        unfold gn
        rw [if_pos (by rw [List.length_set]; exact hi), List.set_set]
      rw [eg]
      dsimp only
      show Ok (match f (env.set i (some (false, d))) w with | .bad => .bad | .ok x w3 => if acc.length < SL then lcL (gn i) tyes f [i] post env w3 (acc ++ [x]) else .bad) _
      cases ey : f (env.set i (some (false, d))) w with
      | bad => rw [ey] at q; exact q
      | ok y w' =>
        rw [ey] at q
        have hlt : acc.length < SL := by
          have := congrArg List.length eq
          rw [List.length_append, List.length_cons] at this
          omega
        dsimp only
        rw [if_pos hlt]
        exact ih (pre ++ [d]) (acc ++ [y]) w' (by rw [eq]; simp) (by simp [ha]) q
end
theorem wp_mdisp {ps : List (Str × M3 D)} {env : Env3} {w : Wd} {P : D → Wd → Prop} : Ok (mdisp ps env w) P ↔ Ok (mseq (ps.map (·.2)) env w) fun ds w => ds.length = ps.length ∧ ps.length ≤ 15 ∧ (ps.map (·.1)).Nodup ∧ P (.dic false (((ps.map (·.1)).zip ds).map fun q => (.str q.1, q.2))) w := by
  unfold mdisp
  simp only [wp_bind]
  cases mseq (ps.map (·.2)) env w with
  | bad => exact Iff.rfl
  | ok ds w =>
    show Ok ((if _ then _ else _ : M3 D) env w) P ↔ _
    split
    · rename_i h; exact ⟨fun q => ⟨h.1, h.2.1, h.2.2, q⟩, fun q => q.2.2.2⟩
    · rename_i h; exact ⟨fun q => q.elim, fun q => h ⟨q.1, q.2.1, q.2.2.1⟩⟩

theorem dMod_ok {i j : Int} (h : 0 < j) : dMod (.int i) (.int j) = some (.int (i % j)) := if_pos h
theorem dDiv_ok {i j : Int} (h : 0 < j) (h2 : j < 1073741824) : dDiv (.int i) (.int j) = some (.int (i / j)) := if_pos ⟨h, h2⟩
theorem dMul_r {i j : Int} (h1 : -(2 ^ 64) < j) (h2 : j < 2 ^ 64) : dMul (.int i) (.int j) = some (.int (i * j)) := if_pos (.inr ⟨h1, h2⟩)
theorem dMul_l {i j : Int} (h1 : -(2 ^ 64) < i) (h2 : i < 2 ^ 64) : dMul (.int i) (.int j) = some (.int (i * j)) := if_pos (.inl ⟨h1, h2⟩)
/-! one step through the plain functions -/
end L3

set_option Elab.async false
set_option linter.all false
set_option maxRecDepth 100000
set_option maxHeartbeats 4000000
/-! L3Law: what every law's own tools compute: the deck, a draw, a pick. -/
namespace L3
open PySem PySem.Spec PyProof.Rows L2

/-- at least n draws are left -/
structure Good (n : Nat) (w : Wd) : Prop where
  d0 : 0 ≤ w.draws
  d1 : w.draws + n ≤ 2 ^ 60
  b0 : 0 ≤ w.blend
  b1 : w.blend < 2147483587
  c : w.cells.length ≤ 64
theorem Good.mono {m n : Nat} {w : Wd} (g : Good n w) (h : m ≤ n) : Good m w := ⟨g.d0, by have := g.d1; omega, g.b0, g.b1, g.c⟩
theorem Wd.new.good {w : Wd} (h : w.new) {n : Nat} (hn : n ≤ 2 ^ 60) : Good n w := ⟨by rw [h.1]; decide, by rw [h.1]; omega, h.2.1, h.2.2.1, Nat.le_trans h.2.2.2 (by decide)⟩

def gDraw (c1 c2 c3 : Int) : St3 := (sseq (sDraws 0 (m2 dAdd (dkInt 0 (·.draws)) (cst (.int 1))))
    (sseq (spar 2 3 (acons (dkInt 0 (·.draws)) (acons (dkInt 0 (·.blend)) anil)))
    (sseq (sif (tCells 0) (sseq (sPop 0 3)
    (sseq (sif (tst (m2 (dCmp fun i j => decide (j ≤ i)) (evarB 3) (m2 dPow (cst (.int 10)) (cst (.int 18))))) (sseq (sPush 0 (m2 dDiv (evarB 3) (evarB 1)))
    (sret (m2 dMod (mC dInt (acons (evarB 3) anil)) (evarB 1)))) snil)
    (sasg (m2 dAdd (evarB 3) (dkInt 0 (·.blend))) (gn 3)))) snil)
    (sseq (sasg (m2 dMod (m2 dMul (mC dInt (acons (m2 dAdd (m2 dAdd (m2 dMod (mC dInt (acons (evarB 3) anil)) (cst (.int 2147483629))) (m2 dMul (m2 dMul (cst (.int c1)) (evarB 2)) (evarB 2))) (cst (.int c2))) anil)) (cst (.int 40692))) (cst (.int 2147483647))) (gn 4))
    (sseq (sasg (m2 dMod (mC dInt (acons (m2 dAdd (m2 dAdd (m2 dMul (evarB 4) (evarB 4)) (m2 dMul (cst (.int 69621)) (evarB 2))) (cst (.int c3))) anil)) (cst (.int 2147483587))) (gn 4))
    (sret (m2 dMod (m2 dDiv (m2 dMod (mC dInt (acons (m2 dMul (evarB 4) (cst (.int 39373))) anil)) (cst (.int 2147483563))) (cst (.int 64))) (evarB 1))))))))
def mDraw (c1 c2 c3 : Int) : Fun3 := defM 5 (gDraw c1 c2 c3)
theorem draw_ok {c1 c2 c3 b : Int} {n : Nat} {w : Wd} {P : D → Wd → Prop} (h1 : -(2 ^ 64) < c1) (h2 : c1 < 2 ^ 64) (hb : 0 < b) (hb2 : b < 1073741824) (g : Good (n + 1) w) (hP : ∀ (k : Int) (w' : Wd), 0 ≤ k → k < b → Good n w' → P (.int k) w') : Ok (mDraw c1 c2 c3 [.deck, .int b] w) P := by
  obtain ⟨cells, blend, draws⟩ := w
  obtain ⟨d0, d1, b0, b1, hc⟩ := g
  dsimp only at d0 d1 b0 b1 hc
  have fin : ∀ (x : Int) (cs : List Int), cs.length ≤ 64 → P (.int (x % b)) ⟨cs, blend, draws + 1⟩ := fun x cs hcs => hP _ _ (Int.emod_nonneg _ (by omega)) (Int.emod_lt_of_pos _ hb) ⟨by show 0 ≤ draws + 1; omega, by show draws + 1 + n ≤ 2 ^ 60; omega, b0, b1, hcs⟩
  have m1 : ∀ i : Int, -(2 ^ 64) < i % 2147483647 ∧ i % 2147483647 < 2 ^ 64 := fun i => ⟨by omega, by omega⟩
  unfold mDraw gDraw
  repeat (first | (with_reducible first | refine wp_sseq.mpr ?_ | refine wp_set.mpr ?_ | refine wp_sret.mpr ?_ | refine wp_sif.mpr ?_ | refine wp_snil.mpr ?_ | refine wp_sdrop.mpr ?_ | refine wp_sfor.mpr ?_ | refine wp_spar.mpr ?_ | refine wp_saug.mpr ?_ | refine wp_son.mpr ?_ | refine wp_sapp.mpr ?_ | refine wp_sDraws.mpr ?_ | refine wp_sPop.mpr ?_ | refine wp_sPush.mpr ?_ | refine wp_m2.mpr ?_ | refine wp_evarB.mpr ?_ | refine wp_evar.mpr ?_ | refine wp_cst.mpr ?_ | refine wp_mC.mpr ?_ | refine wp_acons.mpr ?_ | refine wp_anil.mpr ?_ | refine wp_callM.mpr ?_ | refine wp_kwM.mpr ?_ | refine wp_mtup.mpr ?_ | refine wp_mlst.mpr ?_ | refine wp_msl.mpr ?_ | refine wp_onone.mpr ?_ | refine wp_osome.mpr ?_ | refine wp_tst.mpr ?_ | refine wp_tru.mpr ?_ | refine wp_tnot.mpr ?_ | refine wp_tand.mpr ?_ | refine wp_tor.mpr ?_ | refine wp_vand.mpr ?_ | refine wp_vor.mpr ?_ | refine wp_vnot.mpr ?_ | refine wp_vif.mpr ?_ | refine wp_tyes.mpr ?_ | refine wp_mM.mpr ?_ | refine wp_mneg.mpr ?_ | refine wp_mrevL.mpr ?_ | refine wp_mlenSet.mpr ?_ | refine wp_misi.mpr ?_ | refine wp_dkInt.mpr ?_ | refine wp_tCells.mpr ?_ | refine wp_iseq.mpr ?_ | refine wp_itup.mpr ?_ | refine wp_istr.mpr ?_ | refine wp_irng1.mpr ?_ | refine wp_defM.mpr ?_ | refine wp_starM.mpr ?_ | refine wp_mdisp.mpr ?_ | refine wp_sasg.mpr ?_) | (first | refine ⟨_, rfl, ?_⟩ | refine ⟨_, _, rfl, ?_⟩ | refine ⟨rfl, ?_⟩ | refine ⟨by (exact Nat.le_of_ble_eq_true rfl), ?_⟩ | refine ⟨_, by (first | rfl | exact dMod_ok (by (((try dsimp only); omega))) | exact dDiv_ok (by (((try dsimp only); omega))) (by (((try dsimp only); omega))) | exact dMul_r (by (((try dsimp only); omega))) (by (((try dsimp only); omega))) | exact dMul_l (by (((try dsimp only); omega))) (by (((try dsimp only); omega))) | assumption), ?_⟩ | refine ⟨_, _, rfl, by (exact Nat.le_of_ble_eq_true rfl), by (exact Nat.le_of_ble_eq_true rfl), ?_⟩))
  refine ⟨by show cells.length ≤ 1000; omega, fun h => ?_, fun h => ?_⟩
  · have hne : cells ≠ [] := by
      intro z; subst z; cases h
    repeat (first | (with_reducible first | refine wp_sseq.mpr ?_ | refine wp_set.mpr ?_ | refine wp_sret.mpr ?_ | refine wp_sif.mpr ?_ | refine wp_snil.mpr ?_ | refine wp_sdrop.mpr ?_ | refine wp_sfor.mpr ?_ | refine wp_spar.mpr ?_ | refine wp_saug.mpr ?_ | refine wp_son.mpr ?_ | refine wp_sapp.mpr ?_ | refine wp_sDraws.mpr ?_ | refine wp_sPop.mpr ?_ | refine wp_sPush.mpr ?_ | refine wp_m2.mpr ?_ | refine wp_evarB.mpr ?_ | refine wp_evar.mpr ?_ | refine wp_cst.mpr ?_ | refine wp_mC.mpr ?_ | refine wp_acons.mpr ?_ | refine wp_anil.mpr ?_ | refine wp_callM.mpr ?_ | refine wp_kwM.mpr ?_ | refine wp_mtup.mpr ?_ | refine wp_mlst.mpr ?_ | refine wp_msl.mpr ?_ | refine wp_onone.mpr ?_ | refine wp_osome.mpr ?_ | refine wp_tst.mpr ?_ | refine wp_tru.mpr ?_ | refine wp_tnot.mpr ?_ | refine wp_tand.mpr ?_ | refine wp_tor.mpr ?_ | refine wp_vand.mpr ?_ | refine wp_vor.mpr ?_ | refine wp_vnot.mpr ?_ | refine wp_vif.mpr ?_ | refine wp_tyes.mpr ?_ | refine wp_mM.mpr ?_ | refine wp_mneg.mpr ?_ | refine wp_mrevL.mpr ?_ | refine wp_mlenSet.mpr ?_ | refine wp_misi.mpr ?_ | refine wp_dkInt.mpr ?_ | refine wp_tCells.mpr ?_ | refine wp_iseq.mpr ?_ | refine wp_itup.mpr ?_ | refine wp_istr.mpr ?_ | refine wp_irng1.mpr ?_ | refine wp_defM.mpr ?_ | refine wp_starM.mpr ?_ | refine wp_mdisp.mpr ?_ | refine wp_sasg.mpr ?_) | (first | refine ⟨_, rfl, ?_⟩ | refine ⟨_, _, rfl, ?_⟩ | refine ⟨rfl, ?_⟩ | refine ⟨by (exact Nat.le_of_ble_eq_true rfl), ?_⟩ | refine ⟨_, by (first | rfl | exact dMod_ok (by (((try dsimp only); omega))) | exact dDiv_ok (by (((try dsimp only); omega))) (by (((try dsimp only); omega))) | exact dMul_r (by (((try dsimp only); omega))) (by (((try dsimp only); omega))) | exact dMul_l (by (((try dsimp only); omega))) (by (((try dsimp only); omega))) | assumption), ?_⟩ | refine ⟨_, _, rfl, by (exact Nat.le_of_ble_eq_true rfl), by (exact Nat.le_of_ble_eq_true rfl), ?_⟩))
    obtain ⟨m, em⟩ : ∃ m, cells.getLast? = some m := by
      cases e : cells.getLast? with
      | none => rw [List.getLast?_eq_none_iff] at e; exact absurd e hne
      | some m => exact ⟨m, rfl⟩
    have hd : cells.dropLast.length + 1 = cells.length := by
      have := List.length_pos_iff.mpr hne
      rw [List.length_dropLast]; omega
    refine ⟨m, em, ?_⟩
    repeat (first | (with_reducible first | refine wp_sseq.mpr ?_ | refine wp_set.mpr ?_ | refine wp_sret.mpr ?_ | refine wp_sif.mpr ?_ | refine wp_snil.mpr ?_ | refine wp_sdrop.mpr ?_ | refine wp_sfor.mpr ?_ | refine wp_spar.mpr ?_ | refine wp_saug.mpr ?_ | refine wp_son.mpr ?_ | refine wp_sapp.mpr ?_ | refine wp_sDraws.mpr ?_ | refine wp_sPop.mpr ?_ | refine wp_sPush.mpr ?_ | refine wp_m2.mpr ?_ | refine wp_evarB.mpr ?_ | refine wp_evar.mpr ?_ | refine wp_cst.mpr ?_ | refine wp_mC.mpr ?_ | refine wp_acons.mpr ?_ | refine wp_anil.mpr ?_ | refine wp_callM.mpr ?_ | refine wp_kwM.mpr ?_ | refine wp_mtup.mpr ?_ | refine wp_mlst.mpr ?_ | refine wp_msl.mpr ?_ | refine wp_onone.mpr ?_ | refine wp_osome.mpr ?_ | refine wp_tst.mpr ?_ | refine wp_tru.mpr ?_ | refine wp_tnot.mpr ?_ | refine wp_tand.mpr ?_ | refine wp_tor.mpr ?_ | refine wp_vand.mpr ?_ | refine wp_vor.mpr ?_ | refine wp_vnot.mpr ?_ | refine wp_vif.mpr ?_ | refine wp_tyes.mpr ?_ | refine wp_mM.mpr ?_ | refine wp_mneg.mpr ?_ | refine wp_mrevL.mpr ?_ | refine wp_mlenSet.mpr ?_ | refine wp_misi.mpr ?_ | refine wp_dkInt.mpr ?_ | refine wp_tCells.mpr ?_ | refine wp_iseq.mpr ?_ | refine wp_itup.mpr ?_ | refine wp_istr.mpr ?_ | refine wp_irng1.mpr ?_ | refine wp_defM.mpr ?_ | refine wp_starM.mpr ?_ | refine wp_mdisp.mpr ?_ | refine wp_sasg.mpr ?_) | (first | refine ⟨_, rfl, ?_⟩ | refine ⟨_, _, rfl, ?_⟩ | refine ⟨rfl, ?_⟩ | refine ⟨by (exact Nat.le_of_ble_eq_true rfl), ?_⟩ | refine ⟨_, by (first | rfl | exact dMod_ok (by (((try dsimp only); omega))) | exact dDiv_ok (by (((try dsimp only); omega))) (by (((try dsimp only); omega))) | exact dMul_r (by (((try dsimp only); omega))) (by (((try dsimp only); omega))) | exact dMul_l (by (((try dsimp only); omega))) (by (((try dsimp only); omega))) | assumption), ?_⟩ | refine ⟨_, _, rfl, by (exact Nat.le_of_ble_eq_true rfl), by (exact Nat.le_of_ble_eq_true rfl), ?_⟩))
    refine ⟨fun h2 => ?_, fun h2 => ?_⟩
    · repeat (first | (with_reducible first | refine wp_sseq.mpr ?_ | refine wp_set.mpr ?_ | refine wp_sret.mpr ?_ | refine wp_sif.mpr ?_ | refine wp_snil.mpr ?_ | refine wp_sdrop.mpr ?_ | refine wp_sfor.mpr ?_ | refine wp_spar.mpr ?_ | refine wp_saug.mpr ?_ | refine wp_son.mpr ?_ | refine wp_sapp.mpr ?_ | refine wp_sDraws.mpr ?_ | refine wp_sPop.mpr ?_ | refine wp_sPush.mpr ?_ | refine wp_m2.mpr ?_ | refine wp_evarB.mpr ?_ | refine wp_evar.mpr ?_ | refine wp_cst.mpr ?_ | refine wp_mC.mpr ?_ | refine wp_acons.mpr ?_ | refine wp_anil.mpr ?_ | refine wp_callM.mpr ?_ | refine wp_kwM.mpr ?_ | refine wp_mtup.mpr ?_ | refine wp_mlst.mpr ?_ | refine wp_msl.mpr ?_ | refine wp_onone.mpr ?_ | refine wp_osome.mpr ?_ | refine wp_tst.mpr ?_ | refine wp_tru.mpr ?_ | refine wp_tnot.mpr ?_ | refine wp_tand.mpr ?_ | refine wp_tor.mpr ?_ | refine wp_vand.mpr ?_ | refine wp_vor.mpr ?_ | refine wp_vnot.mpr ?_ | refine wp_vif.mpr ?_ | refine wp_tyes.mpr ?_ | refine wp_mM.mpr ?_ | refine wp_mneg.mpr ?_ | refine wp_mrevL.mpr ?_ | refine wp_mlenSet.mpr ?_ | refine wp_misi.mpr ?_ | refine wp_dkInt.mpr ?_ | refine wp_tCells.mpr ?_ | refine wp_iseq.mpr ?_ | refine wp_itup.mpr ?_ | refine wp_istr.mpr ?_ | refine wp_irng1.mpr ?_ | refine wp_defM.mpr ?_ | refine wp_starM.mpr ?_ | refine wp_mdisp.mpr ?_ | refine wp_sasg.mpr ?_) | (first | refine ⟨_, rfl, ?_⟩ | refine ⟨_, _, rfl, ?_⟩ | refine ⟨rfl, ?_⟩ | refine ⟨by (exact Nat.le_of_ble_eq_true rfl), ?_⟩ | refine ⟨_, by (first | rfl | exact dMod_ok (by (((try dsimp only); omega))) | exact dDiv_ok (by (((try dsimp only); omega))) (by (((try dsimp only); omega))) | exact dMul_r (by (((try dsimp only); omega))) (by (((try dsimp only); omega))) | exact dMul_l (by (((try dsimp only); omega))) (by (((try dsimp only); omega))) | assumption), ?_⟩ | refine ⟨_, _, rfl, by (exact Nat.le_of_ble_eq_true rfl), by (exact Nat.le_of_ble_eq_true rfl), ?_⟩))
      refine ⟨by show cells.dropLast.length < 1000; omega, ?_⟩
      repeat (first | (with_reducible first | refine wp_sseq.mpr ?_ | refine wp_set.mpr ?_ | refine wp_sret.mpr ?_ | refine wp_sif.mpr ?_ | refine wp_snil.mpr ?_ | refine wp_sdrop.mpr ?_ | refine wp_sfor.mpr ?_ | refine wp_spar.mpr ?_ | refine wp_saug.mpr ?_ | refine wp_son.mpr ?_ | refine wp_sapp.mpr ?_ | refine wp_sDraws.mpr ?_ | refine wp_sPop.mpr ?_ | refine wp_sPush.mpr ?_ | refine wp_m2.mpr ?_ | refine wp_evarB.mpr ?_ | refine wp_evar.mpr ?_ | refine wp_cst.mpr ?_ | refine wp_mC.mpr ?_ | refine wp_acons.mpr ?_ | refine wp_anil.mpr ?_ | refine wp_callM.mpr ?_ | refine wp_kwM.mpr ?_ | refine wp_mtup.mpr ?_ | refine wp_mlst.mpr ?_ | refine wp_msl.mpr ?_ | refine wp_onone.mpr ?_ | refine wp_osome.mpr ?_ | refine wp_tst.mpr ?_ | refine wp_tru.mpr ?_ | refine wp_tnot.mpr ?_ | refine wp_tand.mpr ?_ | refine wp_tor.mpr ?_ | refine wp_vand.mpr ?_ | refine wp_vor.mpr ?_ | refine wp_vnot.mpr ?_ | refine wp_vif.mpr ?_ | refine wp_tyes.mpr ?_ | refine wp_mM.mpr ?_ | refine wp_mneg.mpr ?_ | refine wp_mrevL.mpr ?_ | refine wp_mlenSet.mpr ?_ | refine wp_misi.mpr ?_ | refine wp_dkInt.mpr ?_ | refine wp_tCells.mpr ?_ | refine wp_iseq.mpr ?_ | refine wp_itup.mpr ?_ | refine wp_istr.mpr ?_ | refine wp_irng1.mpr ?_ | refine wp_defM.mpr ?_ | refine wp_starM.mpr ?_ | refine wp_mdisp.mpr ?_ | refine wp_sasg.mpr ?_) | (first | refine ⟨_, rfl, ?_⟩ | refine ⟨_, _, rfl, ?_⟩ | refine ⟨rfl, ?_⟩ | refine ⟨by (exact Nat.le_of_ble_eq_true rfl), ?_⟩ | refine ⟨_, by (first | rfl | exact dMod_ok (by (((try dsimp only); omega))) | exact dDiv_ok (by (((try dsimp only); omega))) (by (((try dsimp only); omega))) | exact dMul_r (by (((try dsimp only); omega))) (by (((try dsimp only); omega))) | exact dMul_l (by (((try dsimp only); omega))) (by (((try dsimp only); omega))) | assumption), ?_⟩ | refine ⟨_, _, rfl, by (exact Nat.le_of_ble_eq_true rfl), by (exact Nat.le_of_ble_eq_true rfl), ?_⟩))
      exact fin m (cells.dropLast ++ [m / b]) (by rw [List.length_append]; show cells.dropLast.length + 1 ≤ 64; omega)
    · repeat (first | (with_reducible first | refine wp_sseq.mpr ?_ | refine wp_set.mpr ?_ | refine wp_sret.mpr ?_ | refine wp_sif.mpr ?_ | refine wp_snil.mpr ?_ | refine wp_sdrop.mpr ?_ | refine wp_sfor.mpr ?_ | refine wp_spar.mpr ?_ | refine wp_saug.mpr ?_ | refine wp_son.mpr ?_ | refine wp_sapp.mpr ?_ | refine wp_sDraws.mpr ?_ | refine wp_sPop.mpr ?_ | refine wp_sPush.mpr ?_ | refine wp_m2.mpr ?_ | refine wp_evarB.mpr ?_ | refine wp_evar.mpr ?_ | refine wp_cst.mpr ?_ | refine wp_mC.mpr ?_ | refine wp_acons.mpr ?_ | refine wp_anil.mpr ?_ | refine wp_callM.mpr ?_ | refine wp_kwM.mpr ?_ | refine wp_mtup.mpr ?_ | refine wp_mlst.mpr ?_ | refine wp_msl.mpr ?_ | refine wp_onone.mpr ?_ | refine wp_osome.mpr ?_ | refine wp_tst.mpr ?_ | refine wp_tru.mpr ?_ | refine wp_tnot.mpr ?_ | refine wp_tand.mpr ?_ | refine wp_tor.mpr ?_ | refine wp_vand.mpr ?_ | refine wp_vor.mpr ?_ | refine wp_vnot.mpr ?_ | refine wp_vif.mpr ?_ | refine wp_tyes.mpr ?_ | refine wp_mM.mpr ?_ | refine wp_mneg.mpr ?_ | refine wp_mrevL.mpr ?_ | refine wp_mlenSet.mpr ?_ | refine wp_misi.mpr ?_ | refine wp_dkInt.mpr ?_ | refine wp_tCells.mpr ?_ | refine wp_iseq.mpr ?_ | refine wp_itup.mpr ?_ | refine wp_istr.mpr ?_ | refine wp_irng1.mpr ?_ | refine wp_defM.mpr ?_ | refine wp_starM.mpr ?_ | refine wp_mdisp.mpr ?_ | refine wp_sasg.mpr ?_) | (first | refine ⟨_, rfl, ?_⟩ | refine ⟨_, _, rfl, ?_⟩ | refine ⟨rfl, ?_⟩ | refine ⟨by (exact Nat.le_of_ble_eq_true rfl), ?_⟩ | refine ⟨_, by (first | rfl | exact dMod_ok (by (((try dsimp only); omega))) | exact dDiv_ok (by (((try dsimp only); omega))) (by (((try dsimp only); omega))) | exact dMul_r (by (((try dsimp only); omega))) (by (((try dsimp only); omega))) | exact dMul_l (by (((try dsimp only); omega))) (by (((try dsimp only); omega))) | assumption), ?_⟩ | refine ⟨_, _, rfl, by (exact Nat.le_of_ble_eq_true rfl), by (exact Nat.le_of_ble_eq_true rfl), ?_⟩))
      exact fin _ cells.dropLast (by omega)
  · repeat (first | (with_reducible first | refine wp_sseq.mpr ?_ | refine wp_set.mpr ?_ | refine wp_sret.mpr ?_ | refine wp_sif.mpr ?_ | refine wp_snil.mpr ?_ | refine wp_sdrop.mpr ?_ | refine wp_sfor.mpr ?_ | refine wp_spar.mpr ?_ | refine wp_saug.mpr ?_ | refine wp_son.mpr ?_ | refine wp_sapp.mpr ?_ | refine wp_sDraws.mpr ?_ | refine wp_sPop.mpr ?_ | refine wp_sPush.mpr ?_ | refine wp_m2.mpr ?_ | refine wp_evarB.mpr ?_ | refine wp_evar.mpr ?_ | refine wp_cst.mpr ?_ | refine wp_mC.mpr ?_ | refine wp_acons.mpr ?_ | refine wp_anil.mpr ?_ | refine wp_callM.mpr ?_ | refine wp_kwM.mpr ?_ | refine wp_mtup.mpr ?_ | refine wp_mlst.mpr ?_ | refine wp_msl.mpr ?_ | refine wp_onone.mpr ?_ | refine wp_osome.mpr ?_ | refine wp_tst.mpr ?_ | refine wp_tru.mpr ?_ | refine wp_tnot.mpr ?_ | refine wp_tand.mpr ?_ | refine wp_tor.mpr ?_ | refine wp_vand.mpr ?_ | refine wp_vor.mpr ?_ | refine wp_vnot.mpr ?_ | refine wp_vif.mpr ?_ | refine wp_tyes.mpr ?_ | refine wp_mM.mpr ?_ | refine wp_mneg.mpr ?_ | refine wp_mrevL.mpr ?_ | refine wp_mlenSet.mpr ?_ | refine wp_misi.mpr ?_ | refine wp_dkInt.mpr ?_ | refine wp_tCells.mpr ?_ | refine wp_iseq.mpr ?_ | refine wp_itup.mpr ?_ | refine wp_istr.mpr ?_ | refine wp_irng1.mpr ?_ | refine wp_defM.mpr ?_ | refine wp_starM.mpr ?_ | refine wp_mdisp.mpr ?_ | refine wp_sasg.mpr ?_) | (first | refine ⟨_, rfl, ?_⟩ | refine ⟨_, _, rfl, ?_⟩ | refine ⟨rfl, ?_⟩ | refine ⟨by (exact Nat.le_of_ble_eq_true rfl), ?_⟩ | refine ⟨_, by (first | rfl | exact dMod_ok (by (((try dsimp only); omega))) | exact dDiv_ok (by (((try dsimp only); omega))) (by (((try dsimp only); omega))) | exact dMul_r (by (((try dsimp only); omega))) (by (((try dsimp only); omega))) | exact dMul_l (by (((try dsimp only); omega))) (by (((try dsimp only); omega))) | assumption), ?_⟩ | refine ⟨_, _, rfl, by (exact Nat.le_of_ble_eq_true rfl), by (exact Nat.le_of_ble_eq_true rfl), ?_⟩))
    exact fin _ cells hc

/-! ### pick -/
def gPick (c1 c2 c3 : Int) : St3 := (sret (m2 dIx (evarB 1) (callM (mDraw c1 c2 c3) 2 (acons (evar 0) (acons (mC dLen (acons (evarB 1) anil)) anil)))))
def mPick (c1 c2 c3 : Int) : Fun3 := defM 2 (gPick c1 c2 c3)
theorem atI_int {α : Type} {xs : List α} {k : Int} (h0 : 0 ≤ k) (h1 : k < xs.length) : ∃ x, atI xs k = some x ∧ xs[k.toNat]? = some x ∧ x ∈ xs := by
  have hk : k.toNat < xs.length := by omega
  have e : atI xs ((k.toNat : Nat) : Int) = xs[k.toNat]? := by
    rw [List.getElem?_eq_getElem hk]
    exact atI_nat (List.getElem?_eq_getElem hk)
  rw [Int.toNat_of_nonneg h0] at e
  rw [e]
  exact ⟨xs[k.toNat], List.getElem?_eq_getElem hk, List.getElem?_eq_getElem hk, List.getElem_mem hk⟩
theorem pick_lst {c1 c2 c3 : Int} {ds : List D} {n : Nat} {w : Wd} {P : D → Wd → Prop} (h1 : -(2 ^ 64) < c1) (h2 : c1 < 2 ^ 64) (hb : 0 < ds.length) (hb2 : ds.length < 1073741824) (g : Good (n + 1) w) (hP : ∀ (d : D) (w' : Wd), d ∈ ds → Good n w' → P d w') : Ok (mPick c1 c2 c3 [.deck, .lst ds] w) P := by
  unfold mPick gPick
  repeat (first | (with_reducible first | refine wp_sseq.mpr ?_ | refine wp_set.mpr ?_ | refine wp_sret.mpr ?_ | refine wp_sif.mpr ?_ | refine wp_snil.mpr ?_ | refine wp_sdrop.mpr ?_ | refine wp_sfor.mpr ?_ | refine wp_spar.mpr ?_ | refine wp_saug.mpr ?_ | refine wp_son.mpr ?_ | refine wp_sapp.mpr ?_ | refine wp_sDraws.mpr ?_ | refine wp_sPop.mpr ?_ | refine wp_sPush.mpr ?_ | refine wp_m2.mpr ?_ | refine wp_evarB.mpr ?_ | refine wp_evar.mpr ?_ | refine wp_cst.mpr ?_ | refine wp_mC.mpr ?_ | refine wp_acons.mpr ?_ | refine wp_anil.mpr ?_ | refine wp_callM.mpr ?_ | refine wp_kwM.mpr ?_ | refine wp_mtup.mpr ?_ | refine wp_mlst.mpr ?_ | refine wp_msl.mpr ?_ | refine wp_onone.mpr ?_ | refine wp_osome.mpr ?_ | refine wp_tst.mpr ?_ | refine wp_tru.mpr ?_ | refine wp_tnot.mpr ?_ | refine wp_tand.mpr ?_ | refine wp_tor.mpr ?_ | refine wp_vand.mpr ?_ | refine wp_vor.mpr ?_ | refine wp_vnot.mpr ?_ | refine wp_vif.mpr ?_ | refine wp_tyes.mpr ?_ | refine wp_mM.mpr ?_ | refine wp_mneg.mpr ?_ | refine wp_mrevL.mpr ?_ | refine wp_mlenSet.mpr ?_ | refine wp_misi.mpr ?_ | refine wp_dkInt.mpr ?_ | refine wp_tCells.mpr ?_ | refine wp_iseq.mpr ?_ | refine wp_itup.mpr ?_ | refine wp_istr.mpr ?_ | refine wp_irng1.mpr ?_ | refine wp_defM.mpr ?_ | refine wp_starM.mpr ?_ | refine wp_mdisp.mpr ?_ | refine wp_sasg.mpr ?_) | (first | refine ⟨_, rfl, ?_⟩ | refine ⟨_, _, rfl, ?_⟩ | refine ⟨rfl, ?_⟩ | refine ⟨by (exact Nat.le_of_ble_eq_true rfl), ?_⟩ | refine ⟨_, by (first | rfl | exact dMod_ok (by (((try dsimp only); omega))) | exact dDiv_ok (by (((try dsimp only); omega))) (by (((try dsimp only); omega))) | exact dMul_r (by (((try dsimp only); omega))) (by (((try dsimp only); omega))) | exact dMul_l (by (((try dsimp only); omega))) (by (((try dsimp only); omega))) | assumption), ?_⟩ | refine ⟨_, _, rfl, by (exact Nat.le_of_ble_eq_true rfl), by (exact Nat.le_of_ble_eq_true rfl), ?_⟩))
  refine draw_ok h1 h2 (by omega) (by omega) g fun k w' k0 k1 g' => ?_
  obtain ⟨x, e, _, hm⟩ := atI_int k0 k1
  exact ⟨x, e, hP x w' hm g'⟩
theorem pick_str {c1 c2 c3 : Int} {z : Str} {n : Nat} {w : Wd} {P : D → Wd → Prop} (h1 : -(2 ^ 64) < c1) (h2 : c1 < 2 ^ 64) (hb : 0 < z.length) (hb2 : z.length ≤ SL) (g : Good (n + 1) w) (hP : ∀ (c : Nat) (w' : Wd), c ∈ z.cps.toList → Good n w' → P (.str (sgn c)) w') : Ok (mPick c1 c2 c3 [.deck, .str z] w) P := by
  have hb3 : z.length < 1073741824 := Nat.lt_of_le_of_lt hb2 (by decide)
  have hl : dLen [.str z] = some (.int z.length) := if_pos hb2
  unfold mPick gPick
  repeat (first | (with_reducible first | refine wp_sseq.mpr ?_ | refine wp_set.mpr ?_ | refine wp_sret.mpr ?_ | refine wp_sif.mpr ?_ | refine wp_snil.mpr ?_ | refine wp_sdrop.mpr ?_ | refine wp_sfor.mpr ?_ | refine wp_spar.mpr ?_ | refine wp_saug.mpr ?_ | refine wp_son.mpr ?_ | refine wp_sapp.mpr ?_ | refine wp_sDraws.mpr ?_ | refine wp_sPop.mpr ?_ | refine wp_sPush.mpr ?_ | refine wp_m2.mpr ?_ | refine wp_evarB.mpr ?_ | refine wp_evar.mpr ?_ | refine wp_cst.mpr ?_ | refine wp_mC.mpr ?_ | refine wp_acons.mpr ?_ | refine wp_anil.mpr ?_ | refine wp_callM.mpr ?_ | refine wp_kwM.mpr ?_ | refine wp_mtup.mpr ?_ | refine wp_mlst.mpr ?_ | refine wp_msl.mpr ?_ | refine wp_onone.mpr ?_ | refine wp_osome.mpr ?_ | refine wp_tst.mpr ?_ | refine wp_tru.mpr ?_ | refine wp_tnot.mpr ?_ | refine wp_tand.mpr ?_ | refine wp_tor.mpr ?_ | refine wp_vand.mpr ?_ | refine wp_vor.mpr ?_ | refine wp_vnot.mpr ?_ | refine wp_vif.mpr ?_ | refine wp_tyes.mpr ?_ | refine wp_mM.mpr ?_ | refine wp_mneg.mpr ?_ | refine wp_mrevL.mpr ?_ | refine wp_mlenSet.mpr ?_ | refine wp_misi.mpr ?_ | refine wp_dkInt.mpr ?_ | refine wp_tCells.mpr ?_ | refine wp_iseq.mpr ?_ | refine wp_itup.mpr ?_ | refine wp_istr.mpr ?_ | refine wp_irng1.mpr ?_ | refine wp_defM.mpr ?_ | refine wp_starM.mpr ?_ | refine wp_mdisp.mpr ?_ | refine wp_sasg.mpr ?_) | (first | refine ⟨_, rfl, ?_⟩ | refine ⟨_, _, rfl, ?_⟩ | refine ⟨rfl, ?_⟩ | refine ⟨by (exact Nat.le_of_ble_eq_true rfl), ?_⟩ | refine ⟨_, by (first | rfl | exact dMod_ok (by (((try dsimp only); omega))) | exact dDiv_ok (by (((try dsimp only); omega))) (by (((try dsimp only); omega))) | exact dMul_r (by (((try dsimp only); omega))) (by (((try dsimp only); omega))) | exact dMul_l (by (((try dsimp only); omega))) (by (((try dsimp only); omega))) | assumption), ?_⟩ | refine ⟨_, _, rfl, by (exact Nat.le_of_ble_eq_true rfl), by (exact Nat.le_of_ble_eq_true rfl), ?_⟩))
  refine draw_ok h1 h2 (by omega) (by omega) g fun k w' k0 k1 g' => ?_
  obtain ⟨x, e, _, hm⟩ := atI_int (xs := z.cps.toList) k0 (by show k < (z.cps.toList.length : Int); rw [Array.length_toList]; exact k1)
  refine ⟨.str (sgn x), ?_, hP x w' hm g'⟩
  show (if z.length ≤ SL then (atI z.cps.toList k).map fun c => D.str ⟨#[c]⟩ else none) = _
  rw [if_pos hb2, e]
  rfl

/-! ### the deck's making -/
def gDeck (c3 : Int) : St3 := (sfor (iseq (evar 1)) (gn 3) (sasg (m2 dMod (mC dInt (acons (m2 dAdd (m2 dAdd (m2 dMul (evarB 2) (cst (.int 48271))) (m2 dMod (mC dInt (acons (evarB 3) anil)) (cst (.int 2147483629)))) (cst (.int c3))) anil)) (cst (.int 2147483587))) (gn 2)))
def fDeck : M3 D := (mdisp [(Str.ofString "cells", (mrevL (evarB 1))), (Str.ofString "blend", (evar 2)), (Str.ofString "draws", (cst (.int 0)))])
theorem Ok.eqN {r : S3} {w0 : Wd} {d : Env3 → Prop} (h : Sx r (fun x w => d x ∧ w = w0) no2 no2 fun _ _ => False) : ∃ x, r = .nx x w0 ∧ d x := by
  cases r with
  | nx x w => obtain ⟨h1, rfl⟩ := h; exact ⟨x, rfl, h1⟩
  | _ => exact h.elim
theorem Ok.eqE {r : R3 D} {w0 : Wd} {d : D} (h : Ok r fun x w => x = d ∧ w = w0) : r = .ok d w0 := by
  cases r with
  | ok x w => obtain ⟨rfl, rfl⟩ := h; rfl
  | _ => exact h.elim
theorem deck_made {b0 c3 : Int} (hb : 0 ≤ b0) (hb2 : b0 < 2147483587) (ns : List Int) (w0 : Wd) (h : ns.length ≤ 63) : ∃ (w : Wd) (env : Env3), w.new ∧ gDeck c3 [none, some (false, .lst (ns.map D.int)), some (false, .int b0), none] w0 = .nx env w0 ∧ fDeck env w0 = .ok (deckD w) w0 := by
  suffices q : Sx (gDeck c3 [none, some (false, .lst (ns.map D.int)), some (false, .int b0), none] w0) (fun e w => (∃ (b : Int) (o : Option (Bool × D)), 0 ≤ b ∧ b < 2147483587 ∧ e = [none, some (false, .lst (ns.map D.int)), some (false, .int b), o]) ∧ w = w0) no2 no2 fun _ _ => False by
    obtain ⟨x, e, b, o, h0, h1, rfl⟩ := Ok.eqN q
    refine ⟨⟨ns.reverse, b, 0⟩, _, ⟨rfl, h0, h1, by show ns.reverse.length ≤ 63; rw [List.length_reverse]; exact h⟩, e, Ok.eqE ?_⟩
    unfold fDeck
    repeat (first | (with_reducible first | refine wp_sseq.mpr ?_ | refine wp_set.mpr ?_ | refine wp_sret.mpr ?_ | refine wp_sif.mpr ?_ | refine wp_snil.mpr ?_ | refine wp_sdrop.mpr ?_ | refine wp_sfor.mpr ?_ | refine wp_spar.mpr ?_ | refine wp_saug.mpr ?_ | refine wp_son.mpr ?_ | refine wp_sapp.mpr ?_ | refine wp_sDraws.mpr ?_ | refine wp_sPop.mpr ?_ | refine wp_sPush.mpr ?_ | refine wp_m2.mpr ?_ | refine wp_evarB.mpr ?_ | refine wp_evar.mpr ?_ | refine wp_cst.mpr ?_ | refine wp_mC.mpr ?_ | refine wp_acons.mpr ?_ | refine wp_anil.mpr ?_ | refine wp_callM.mpr ?_ | refine wp_kwM.mpr ?_ | refine wp_mtup.mpr ?_ | refine wp_mlst.mpr ?_ | refine wp_msl.mpr ?_ | refine wp_onone.mpr ?_ | refine wp_osome.mpr ?_ | refine wp_tst.mpr ?_ | refine wp_tru.mpr ?_ | refine wp_tnot.mpr ?_ | refine wp_tand.mpr ?_ | refine wp_tor.mpr ?_ | refine wp_vand.mpr ?_ | refine wp_vor.mpr ?_ | refine wp_vnot.mpr ?_ | refine wp_vif.mpr ?_ | refine wp_tyes.mpr ?_ | refine wp_mM.mpr ?_ | refine wp_mneg.mpr ?_ | refine wp_mrevL.mpr ?_ | refine wp_mlenSet.mpr ?_ | refine wp_misi.mpr ?_ | refine wp_dkInt.mpr ?_ | refine wp_tCells.mpr ?_ | refine wp_iseq.mpr ?_ | refine wp_itup.mpr ?_ | refine wp_istr.mpr ?_ | refine wp_irng1.mpr ?_ | refine wp_defM.mpr ?_ | refine wp_starM.mpr ?_ | refine wp_mdisp.mpr ?_ | refine wp_sasg.mpr ?_) | (first | refine ⟨_, rfl, ?_⟩ | refine ⟨_, _, rfl, ?_⟩ | refine ⟨rfl, ?_⟩ | refine ⟨by (exact Nat.le_of_ble_eq_true rfl), ?_⟩ | refine ⟨_, by (first | rfl | exact dMod_ok (by (((try dsimp only); omega))) | exact dDiv_ok (by (((try dsimp only); omega))) (by (((try dsimp only); omega))) | exact dMul_r (by (((try dsimp only); omega))) (by (((try dsimp only); omega))) | exact dMul_l (by (((try dsimp only); omega))) (by (((try dsimp only); omega))) | assumption), ?_⟩ | refine ⟨_, _, rfl, by (exact Nat.le_of_ble_eq_true rfl), by (exact Nat.le_of_ble_eq_true rfl), ?_⟩))
    refine ⟨by decide, ?_, rfl⟩
    show D.dic false [(.str (Str.ofString "cells"), .lst (ns.map D.int).reverse), (.str (Str.ofString "blend"), .int b), (.str (Str.ofString "draws"), .int 0)] = _
    rw [← List.map_reverse]
    rfl
  unfold gDeck
  repeat (first | (with_reducible first | refine wp_sseq.mpr ?_ | refine wp_set.mpr ?_ | refine wp_sret.mpr ?_ | refine wp_sif.mpr ?_ | refine wp_snil.mpr ?_ | refine wp_sdrop.mpr ?_ | refine wp_sfor.mpr ?_ | refine wp_spar.mpr ?_ | refine wp_saug.mpr ?_ | refine wp_son.mpr ?_ | refine wp_sapp.mpr ?_ | refine wp_sDraws.mpr ?_ | refine wp_sPop.mpr ?_ | refine wp_sPush.mpr ?_ | refine wp_m2.mpr ?_ | refine wp_evarB.mpr ?_ | refine wp_evar.mpr ?_ | refine wp_cst.mpr ?_ | refine wp_mC.mpr ?_ | refine wp_acons.mpr ?_ | refine wp_anil.mpr ?_ | refine wp_callM.mpr ?_ | refine wp_kwM.mpr ?_ | refine wp_mtup.mpr ?_ | refine wp_mlst.mpr ?_ | refine wp_msl.mpr ?_ | refine wp_onone.mpr ?_ | refine wp_osome.mpr ?_ | refine wp_tst.mpr ?_ | refine wp_tru.mpr ?_ | refine wp_tnot.mpr ?_ | refine wp_tand.mpr ?_ | refine wp_tor.mpr ?_ | refine wp_vand.mpr ?_ | refine wp_vor.mpr ?_ | refine wp_vnot.mpr ?_ | refine wp_vif.mpr ?_ | refine wp_tyes.mpr ?_ | refine wp_mM.mpr ?_ | refine wp_mneg.mpr ?_ | refine wp_mrevL.mpr ?_ | refine wp_mlenSet.mpr ?_ | refine wp_misi.mpr ?_ | refine wp_dkInt.mpr ?_ | refine wp_tCells.mpr ?_ | refine wp_iseq.mpr ?_ | refine wp_itup.mpr ?_ | refine wp_istr.mpr ?_ | refine wp_irng1.mpr ?_ | refine wp_defM.mpr ?_ | refine wp_starM.mpr ?_ | refine wp_mdisp.mpr ?_ | refine wp_sasg.mpr ?_) | (first | refine ⟨_, rfl, ?_⟩ | refine ⟨_, _, rfl, ?_⟩ | refine ⟨rfl, ?_⟩ | refine ⟨by (exact Nat.le_of_ble_eq_true rfl), ?_⟩ | refine ⟨_, by (first | rfl | exact dMod_ok (by (((try dsimp only); omega))) | exact dDiv_ok (by (((try dsimp only); omega))) (by (((try dsimp only); omega))) | exact dMul_r (by (((try dsimp only); omega))) (by (((try dsimp only); omega))) | exact dMul_l (by (((try dsimp only); omega))) (by (((try dsimp only); omega))) | assumption), ?_⟩ | refine ⟨_, _, rfl, by (exact Nat.le_of_ble_eq_true rfl), by (exact Nat.le_of_ble_eq_true rfl), ?_⟩))
  refine for_inv (fun _ e w => w = w0 ∧ ∃ (b : Int) (o : Option (Bool × D)), 0 ≤ b ∧ b < 2147483587 ∧ e = [none, some (false, .lst (ns.map D.int)), some (false, .int b), o]) ⟨rfl, b0, none, hb, hb2, rfl⟩ ?_ ?_
  · rintro pre post d e w eq ⟨rfl, b, o, h0, h1, rfl⟩
    refine ⟨_, rfl, ?_⟩
    obtain ⟨k, rfl⟩ : ∃ k, d = .int k := by
      have hm : d ∈ ns.map D.int := by rw [eq]; simp
      obtain ⟨k, _, rfl⟩ := List.mem_map.mp hm
      exact ⟨k, rfl⟩
    repeat (first | (with_reducible first | refine wp_sseq.mpr ?_ | refine wp_set.mpr ?_ | refine wp_sret.mpr ?_ | refine wp_sif.mpr ?_ | refine wp_snil.mpr ?_ | refine wp_sdrop.mpr ?_ | refine wp_sfor.mpr ?_ | refine wp_spar.mpr ?_ | refine wp_saug.mpr ?_ | refine wp_son.mpr ?_ | refine wp_sapp.mpr ?_ | refine wp_sDraws.mpr ?_ | refine wp_sPop.mpr ?_ | refine wp_sPush.mpr ?_ | refine wp_m2.mpr ?_ | refine wp_evarB.mpr ?_ | refine wp_evar.mpr ?_ | refine wp_cst.mpr ?_ | refine wp_mC.mpr ?_ | refine wp_acons.mpr ?_ | refine wp_anil.mpr ?_ | refine wp_callM.mpr ?_ | refine wp_kwM.mpr ?_ | refine wp_mtup.mpr ?_ | refine wp_mlst.mpr ?_ | refine wp_msl.mpr ?_ | refine wp_onone.mpr ?_ | refine wp_osome.mpr ?_ | refine wp_tst.mpr ?_ | refine wp_tru.mpr ?_ | refine wp_tnot.mpr ?_ | refine wp_tand.mpr ?_ | refine wp_tor.mpr ?_ | refine wp_vand.mpr ?_ | refine wp_vor.mpr ?_ | refine wp_vnot.mpr ?_ | refine wp_vif.mpr ?_ | refine wp_tyes.mpr ?_ | refine wp_mM.mpr ?_ | refine wp_mneg.mpr ?_ | refine wp_mrevL.mpr ?_ | refine wp_mlenSet.mpr ?_ | refine wp_misi.mpr ?_ | refine wp_dkInt.mpr ?_ | refine wp_tCells.mpr ?_ | refine wp_iseq.mpr ?_ | refine wp_itup.mpr ?_ | refine wp_istr.mpr ?_ | refine wp_irng1.mpr ?_ | refine wp_defM.mpr ?_ | refine wp_starM.mpr ?_ | refine wp_mdisp.mpr ?_ | refine wp_sasg.mpr ?_) | (first | refine ⟨_, rfl, ?_⟩ | refine ⟨_, _, rfl, ?_⟩ | refine ⟨rfl, ?_⟩ | refine ⟨by (exact Nat.le_of_ble_eq_true rfl), ?_⟩ | refine ⟨_, by (first | rfl | exact dMod_ok (by (((try dsimp only); omega))) | exact dDiv_ok (by (((try dsimp only); omega))) (by (((try dsimp only); omega))) | exact dMul_r (by (((try dsimp only); omega))) (by (((try dsimp only); omega))) | exact dMul_l (by (((try dsimp only); omega))) (by (((try dsimp only); omega))) | assumption), ?_⟩ | refine ⟨_, _, rfl, by (exact Nat.le_of_ble_eq_true rfl), by (exact Nat.le_of_ble_eq_true rfl), ?_⟩))
    refine ⟨_, _, ?_, ?_, rfl⟩
    · omega
    · omega
  · rintro e w ⟨rfl, b, o, h0, h1, rfl⟩
    exact ⟨⟨b, o, h0, h1, rfl⟩, rfl⟩
end L3

set_option Elab.async false
set_option linter.all false
set_option maxRecDepth 100000
set_option maxHeartbeats 4000000
/-! L5Raw: an own exception class two steps below Exception, whose __init__ says super().__init__('..') and perhaps stores its parameter: how one is made. -/
namespace PySem
namespace L5
open PySem.W PySem.Calls PyProof.Rows PySem.HandSPX
abbrev exTail : List Value := ESX.exTail

/-! ### type.__call__, keywords allowed -/
section
variable {M : Model} {A : Around} {E : Value → Shared → Prop} {h : Heap} {g : Array GenState} {d : Drawn} {t : Nat} {os : OsState}
variable {nm q : Str} {C N : Addr} {bs bm bmB : List Value} {hdct : Bool} {sn : List Str} {sub : List Value} {ab : Bool} {col : Option Bool} {dd : Option Addr} {k0 k1 k2 k3 k5 : Option Value} {B newId initId : String}
theorem check_new_kw (F : ExcBaseFacts B newId initId bmB) (hT : ∀ X : String, bm.contains (.type X) = bmB.contains (.type X)) {rest : List Value} {kw : List (Str × Value)} {Q : Unit → Shared → Prop}
    (hC : h.get? C = some (excClassObj nm q C N bs bm hdct sn sub ab col dd k0 k1 k2 k3 k5 newId)) (hq : Q () ⟨h, g, d, t, os⟩) : wpAny M A (checkBuiltinCall newId ⟨.ref C :: rest, kw⟩) Q E ⟨h, g, d, t, os⟩ := by
  have hcont : (Value.ref C :: bm).contains (.type B) = true := by rw [List.contains_cons, hT, F.hasB, Bool.or_true]
  have hstar := F.noStar
  simp only [checkBuiltinCall, F.newKind, F.newSplit, F.newRow]
  repeat (first | refine wpAny_loadPart_at hC ?_ | (refine wpAny_isSubtype_exc hC ?_; rw [hcont]) | refine wpAny_staticBase_exc hC ?_ | refine wpAny_madeBy_exc hC ?_ | simp only [bne_self_eq_false, Bool.false_eq_true, if_false] | wp_step)
  exact hq
end
section
variable {prog : Program} {w : World} {A : Around} {E : Value → Shared → Prop} {R : Result → Shared → Prop} {h : Heap} {g : Array GenState} {d : Drawn} {t : Nat} {os : OsState}
variable {nm q : Str} {C N : Addr} {bs bm bmB : List Value} {hdct : Bool} {sn : List Str} {sub : List Value} {ab : Bool} {col : Option Bool} {dd : Option Addr} {k0 k1 k2 k3 k5 : Option Value} {B newId initId : String}
theorem new_kw (F : ExcBaseFacts B newId initId bmB) (hT : ∀ X : String, bm.contains (.type X) = bmB.contains (.type X)) {rest : List Value} {kw : List (Str × Value)}
    (hC : h.get? C = some (excClassObj nm q C N bs bm hdct sn sub ab col dd k0 k1 k2 k3 k5 newId))
    (hq : R (.ok (.ret (.ref (h.objs.size + 1)))) ⟨(h.push { cls := .type "tuple", data := .seq rest.toArray }).push
      { cls := .ref C, data := .fields #[.ref h.objs.size, .none, .none, .none, .bool false, .none] }, g, d, t, os⟩) (hrest : rest.length ≤ sizeLine) :
    codeAny (model prog w) A (.builtin newId ⟨.ref C :: rest, kw⟩) R ⟨h, g, d, t, os⟩ := by
  have hends := F.ends
  have hcB : (Value.ref C :: bm).contains (.type B) = true := by rw [List.contains_cons, hT, F.hasB, Bool.or_true]
  have hcA : (Value.ref C :: bm).contains (.type "AttributeError") = false := by rw [List.contains_cons, hT, F.noAttr]; rfl
  have hcN : (Value.ref C :: bm).contains (.type "NameError") = false := by rw [List.contains_cons, hT, F.noName]; rfl
  refine codeAny_builtinAt F.entry ?_
  unfold Builtin.«BaseException.__new__»
  refine wpAt_bind ?_
  show wpAt _ _ _ (stack >>= _) _ _ _
  refine wpAt_bind (wpAt_stack fun p below => wpAt_of_wpAny ?_)
  wp_walk
  refine wpAt_of_wpAny ?_
  rw [F.owner]
  repeat (first | with_reducible refine wpAny_madeHere_exc F.canon hC ?_ | with_reducible refine wpAny_loadPart_at hC ?_ | (with_reducible refine wpAny_isSubtype_exc hC ?_; first | rw [hcB] | rw [hcA] | rw [hcN]) | wp_step)
  show R _ _
  rw [Heap.size_push]
  exact hq
theorem type_call_kw (F : ExcBaseFacts B newId initId bmB) (hT : ∀ X : String, bm.contains (.type X) = bmB.contains (.type X)) {rest : List Value} {kw : List (Str × Value)} {fI : Addr} {Q : Fin → Shared → Prop}
    (hC : h.get? C = some (excClassObj nm q C N bs bm hdct sn sub ab col dd k0 k1 k2 k3 k5 newId))
    (hi : W.Looks (model prog w) h (typeLookup (.ref C) "__init__") (some (.ref fI))) (hb : ∀ self, W.Looks (model prog w) h (bindSpecial (.ref fI) self) (.ref fI, [self])) (hrest : rest.length ≤ sizeLine)
    (hq : codeAny (model prog w) A (.call (.ref fI) ⟨.ref (h.objs.size + 1) :: rest, kw⟩)
      (fun r s' => match r with | .ok (.ret v) => v = .none ∧ Q (.done (.ret (.ref (h.objs.size + 1)))) s' | .ok _ => False | .error e => E e s')
      ⟨(h.push (W.kdv_tup rest)).push (excO C h.objs.size), g, d, t, os⟩) :
    wpAny (model prog w) A (Builtin.«type.__call__» ⟨.ref C :: rest, kw⟩) Q E ⟨h, g, d, t, os⟩ := by
  repeat (first | with_reducible refine wpAny_loadPart_at hC ?_ | with_reducible refine wpAny_madeBy_exc hC ?_ | wp_step)
  refine codeAny_call_builtin_code (Code.quiet_builtin _ F.quiet) (check_new_kw F hT hC ?_)
  refine new_kw F hT hC ?_ hrest
  show wpAny _ _ _ _ _ _
  have k : ∀ b o, h.get? b = some o → ((h.push (W.kdv_tup rest)).push (excO C h.objs.size)).get? b = some o := fun b o e => Heap.get?_push_of_some _ (Heap.get?_push_of_some _ e)
  have hC₁ := k _ _ hC
  have hget : ((h.push (W.kdv_tup rest)).push (excO C h.objs.size)).get? (h.objs.size + 1) = some (excO C h.objs.size) := by heap_get
  have hcC : (Value.ref C :: bm).contains (.ref C) = true := by simp
  have i1 := hi.keeps k
  have b1 := (hb (.ref (h.objs.size + 1))).keeps k
  unfold isInstance
  repeat (first | with_reducible refine wpAny_loadPart_at hget ?_ | (with_reducible refine wpAny_isSubtype_exc hC₁ ?_; rw [hcC]) | wp_step)
  show wpAny _ _ (typeLookup (.ref C) _) _ _ _
  refine i1.at ?_
  refine wpAny_holding (wpAny_bind (b1.at ?_))
  refine wpAny_bind (wpAny_call (codeAny_mono hq fun r s' z => ?_))
  rcases r with e | (v | _ | _ | _) <;> first | exact z | exact z.elim | skip
  obtain ⟨rfl, z⟩ := z
  first
    | exact wpAny_pure (wpAny_pure z)
    | (wp_walk; exact z)
theorem call_kw (F : ExcBaseFacts B newId initId bmB) (hT : ∀ X : String, bm.contains (.type X) = bmB.contains (.type X)) {rest : List Value} {kw : List (Str × Value)} {fI : Addr}
    (hC : h.get? C = some (excClassObj nm q C N bs bm hdct sn sub ab col dd k0 k1 k2 k3 k5 newId))
    (hi : W.Looks (model prog w) h (typeLookup (.ref C) "__init__") (some (.ref fI))) (hb : ∀ self, W.Looks (model prog w) h (bindSpecial (.ref fI) self) (.ref fI, [self])) (hrest : rest.length ≤ sizeLine)
    (hq : codeAny (model prog w) (A.under (.builtin "type.__call__" ⟨.ref C :: rest, kw⟩)) (.call (.ref fI) ⟨.ref (h.objs.size + 1) :: rest, kw⟩) (W.InitBack (h.objs.size + 1) R)
      ⟨(h.push (W.kdv_tup rest)).push (excO C h.objs.size), g, d, t, os⟩) :
    codeAny (model prog w) A (.call (.ref C) ⟨rest, kw⟩) R ⟨h, g, d, t, os⟩ := by
  have f1 := tc_lookup
  have f2 := tc_bind (.ref C)
  have hTy : (⟨h, g, d, t, os⟩ : Shared).TypeIs (.ref C) "type" := ⟨_, hC, rfl⟩
  refine codeAny_of_tree ?_
  show wpAny _ _ (callAny (.ref C) _) _ _ _
  repeat (any_goals (first | assumption | with_reducible refine wpAny_loadPart_at hC ?_ | wp_step))
  refine ⟨rfl, ?_⟩
  refine codeAny_call_builtin_at (Code.quiet_builtin _ (by decide +kernel)) entry_typeCall (wpAny_check_type_call_sub hC (type_call_kw F hT hC hi hb hrest ?_))
  refine codeAny_mono hq fun r s' z => ?_
  rcases r with e | (v | _ | _ | _) <;> exact z
end

/-! ### self.name = v, the class two steps below Exception -/
section
open Builtin Builtin.ObjectAttr
variable {prog : Program} {w : World} {A : Around} {E : Value → Shared → Prop} {R : Result → Shared → Prop} {hp : Heap} {g : Array GenState} {d : Drawn} {t : Nat} {os : OsState}
theorem osa_exc2 {K : W.Frag} {name : Str} {tk : Tok} {v : Value} {x C P : Addr} {ox : Obj} {od : Option Obj} {cd : ClassData}
    (X : K.In hp) (I : W.InstAt hp x ox C od) (hcd : W.clsIn K C = some cd) (hm : cd.mro = .ref C :: .ref P :: exTail) (ha : W.findIn K (.ref C) name = some none)
    (hq : wpAny (model prog w) A.in1 (storeInOwnDict (.ref x) (.ref C) (.str name tk) name v false)
      (fun fin s' => match fin with | .done f => R (.ok f) s' | .again c' => c'.quiet = true ∧ codeAny (model prog w) A c' R s') (fun e s' => R (.error e) s') ⟨hp, g, d, t, os⟩) :
    codeAny (model prog w) A (.call (.builtin "object.__setattr__") ⟨[.ref x, .str name tk, v], []⟩) R ⟨hp, g, d, t, os⟩ := by
  have SF := F.store_object
  have hob : cd.mro.contains (.type "object") = true := by
    rw [hm, List.contains_cons, List.contains_cons]
    have : exTail.contains (Value.type "object") = true := by decide +kernel
    rw [this, Bool.or_true, Bool.or_true]
  have ne : cd.mro.isEmpty = false := by rw [hm]; rfl
  have sub : W.Looks (model prog w) hp (isInstance (.ref x) (.type "object")) true := I.type.andThen (W.looks_mroIn X (by unfold W.mroIn; rw [hcd, Option.bind_some, if_neg (by rw [ne]; decide), hob]))
  refine codeAny_call_builtin SF.slot.plain SF.entry (@W.check_slot (model prog w) _ _ ⟨hp, g, d, t, os⟩ "object.__setattr__" "object" "__setattr__" (.ref x) [.str name tk, v] [] _ SF.kind SF.split sub (SF.args (.ref x) (.str name tk) v) ?_)
  have hmr : W.Looks (model prog w) hp (mroOf (.ref C)) cd.mro := (W.looks_clsIn X hcd).andThen .now
  have L3 : W.Looks (model prog w) hp (storeTaker? none) none := .now
  have hpass : refuseLoop (.ref x) "__setattr__" cd.mro = pure () := by
    rw [hm, refuseLoop_ref, refuseLoop_ref]
    exact F.store_Exception.passes _
  rw [W.osa_eq, refuse_eq]
  refine wpAny_bind (wpAny_bind (I.type.at (wpAny_bind (hmr.at ?_))))
  rw [hpass]
  refine wpAny_pure (wpAny_bind (I.type.at (wpAny_bind ((W.looks_findIn X ha).at (wpAny_bind (L3.at ?_))))))
  exact hq
theorem osa_new2 {K : W.Frag} {name : Str} {tk : Tok} {v : Value} {x C P : Addr} {fv : Array Value} {cd : ClassData}
    (X : K.In hp) (hx : hp.get? x = some { cls := .ref C, data := .fields fv }) (hcd : W.clsIn K C = some cd) (hm : cd.mro = .ref C :: .ref P :: exTail) (hh : cd.hasDict = true) (ha : W.findIn K (.ref C) name = some none)
    (hq : ∀ h' tk' dx, (∀ b o, b ≠ x → hp.get? b = some o → h'.get? b = some o) → hp.objs.size ≤ dx → dx ≠ x → h'.get? x = some { cls := .ref C, dict := some dx, data := .fields fv } →
      h'.Ns1 dx (fun y => if y = name then some v else none) → R (.ok (.ret .none)) ⟨h', g, d, tk', os⟩) :
    codeAny (model prog w) A (.call (.builtin "object.__setattr__") ⟨[.ref x, .str name tk, v], []⟩) R ⟨hp, g, d, t, os⟩ := by
  have I : W.InstAt hp x { cls := .ref C, data := .fields fv } C none := ⟨hx, rfl, rfl, trivial⟩
  have hxs : x ≠ hp.objs.size := Nat.ne_of_lt (Heap.lt_size hx)
  refine osa_exc2 X I hcd hm ha ?_
  have hcls : W.Looks (model prog w) hp (classData C) cd := W.looks_clsIn X hcd
  obtain ⟨nm, bs, mro, ns, qn, hd, sn, sb, ab, col, del⟩ := cd
  dsimp only at hh
  subst hh
  unfold storeInOwnDict ownDictForStores
  repeat (first | with_reducible refine HandSPX.store_in_new ?_ ?_ | with_reducible refine wpAny_loadPart_at hx ?_ | with_reducible refine hcls.at ?_ | wp_step)
  · exact ⟨_, #[], _, (Heap.get?_update_ne _ _ _ _ hxs.symm).trans (Heap.get?_push_at rfl rfl), rfl, fun e he => absurd he (by simp), fun _ => rfl⟩
  · intro h' tk' hn' hs
    have hx₁ : (hp.push { cls := .type "dict", data := .dict #[] }).get? x = some { cls := .ref C, data := .fields fv } := Heap.get?_push_of_some _ hx
    refine hq h' tk' hp.objs.size (fun b o hb ho => ?_) (Nat.le_refl _) hxs.symm ?_ hn'
    · exact (hs.2 b (Nat.ne_of_lt (Heap.lt_size ho))).trans ((Heap.get?_update_ne _ _ _ _ hb).trans (Heap.get?_push_of_some _ ho))
    · exact (hs.2 x hxs).trans (Heap.get?_update_self _ hx₁ rfl)
end
end L5
end PySem

set_option Elab.async false
set_option linter.all false
set_option maxRecDepth 100000
set_option maxHeartbeats 4000000
/-! L5Init: the __init__ of such a class, with and without a parameter. -/
namespace PySem
namespace L5
open PySem.W PySem.Calls PyProof.Rows PySem.HandSPX
/-! ### the text -/
def aA (ps : List (Str × Pos)) : Arguments := { posonlyargs := [], args := ps.map fun p => { arg := p.1, annotation := none, pos := p.2 }, vararg := none, kwonlyargs := [], kw_defaults := [], kwarg := none, defaults := [] }
/-- the positions of super().__init__('..') -/
structure SPos where
  p0 : Pos
  p1 : Pos
  p2 : Pos
  p3 : Pos
  p4 : Pos
  p5 : Pos
def supS (msg : String) (p : SPos) : Stmt := .Expr (.Call (.Attribute (.Call (.Name "super" p.p0) [] [] p.p1) "__init__" p.p2) [.Constant (.str msg) 0 p.p3] [] p.p4) p.p5
/-- the call is one of a method, on one line -/
def SupOk (msg : String) (p : SPos) : Prop := ∃ pl : Sem Bool, ∀ env : Env, eval (.Call (.Attribute (.Call (.Name "super" p.p0) [] [] p.p1) "__init__" p.p2) [.Constant (.str msg) 0 p.p3] [] p.p4) env = (do
      let ov ← attributeBase (.Call (.Name "super" p.p0) [] [] p.p1) "__init__" env (eval (.Call (.Name "super" p.p0) [] [] p.p1) env)
      standAt p.p2.atName
      let (f, first) ← holding [ov] (getMethod ov "__init__" pl)
      callWith p.p4 f first (backTo p.p4 (starEach [.Constant (.str msg) 0 p.p3] env)) [])
def setS (attr : Str) (q1 q2 q3 q4 : Pos) : Stmt := .Assign [.Attribute (.Name "self" q1) attr q2] (.Name attr q3) q4
def sc0 : Scope := { kind := .function, names := [(PySem.Str.ofString "self", .local), (PySem.Str.ofString "__class__", .free), (PySem.Str.ofString "super", .globalImplicit)], isGenerator := false, isCoroutine := false, more := [] }
def sc1 (attr : Str) : Scope := { kind := .function, names := [(PySem.Str.ofString "self", .local), (attr, .local), (PySem.Str.ofString "__class__", .free), (PySem.Str.ofString "super", .globalImplicit)], isGenerator := false, isCoroutine := false, more := [] }

/-- what the written part says of the class C and of its __init__ -/
structure BadC (prog : Program) (K : Frag) (mg : Str → Option Value) (C fI cc cda : Addr) (fd : FuncData) : Prop where
  cls : ∃ nm q N bs P sn sub ab col dd k0 k1 k2 k3 k5, K.lookup C = some (excClassObj nm q C N bs (.ref P :: exTail) true sn sub ab col dd k0 k1 k2 k3 k5 "Exception.__new__")
  iC : findIn K (.ref C) "__init__" = some (some (.ref fI))
  tI : typeIn K (.ref fI) = some (.type "function")
  fn : ∃ oc od osl, K.lookup fI = some ⟨oc, od, .func fd, osl⟩
  cd : codeIn K (.ref cda) fd.qualname = true
  co : ∃ ccl cdd vs ccs tf, K.lookup cda = some ⟨ccl, cdd, .fields vs, ccs⟩ ∧ vs[2]? = some (.str prog.main.file tf)
  ce : ∃ cl cld csl, K.lookup cc = some ⟨cl, cld, .cell (some (.ref C)), csl⟩
  noS : mg "super" = none
  top : (prog.main.scope.names.lookup ("super" : Str)).isSome = false
  any : nsIn K cStatics "thirdparty.any" = some none
  al : ks_superIn K C C "__init__" = some (some (.builtin "Exception.__init__"))

section
variable {prog : Program} {w : World} {A : Around} {E : Value → Shared → Prop} {h : Heap} {g : Array GenState} {d : Drawn} {t : Nat} {os : OsState} {K : Frag} {mg : Str → Option Value} {C fI cc cda L : Addr}
variable {body : List Stmt} {scope : Scope} {qual : Str} {params : Arguments} {dV kV doc pm ct : Value} {an : Option Addr}
theorem bm_has (P : Addr) (X : String) : (Value.ref P :: exTail).contains (.type X) = exTail.contains (.type X) := by
  rw [List.contains_cons]; rfl
/-- super().__init__('msg') -/
theorem sup_ok {m : Str → Option Value} {x t0 : Addr} {ar : Arg} {msg : String} {p : SPos} {rest : List Stmt} {Q : Flow → Shared → Prop} (hmc : SupOk msg p) (hin : interactive (ksEnv qual scope L fI (.ref cda) cc) = false)
    (T : BadC prog K mg C fI cc cda (ksFn "__init__" qual params body scope dV kV doc pm an (.ref cda) ct cc)) (X : K.In h) (G : h.Ns mainGlobals mg) (Bn : ∃ mb, h.Ns builtinsNs mb ∧ ∀ x : Str, x ≠ "__name__" → mb x = bootBuiltins x) (hx : h.get? x = some (excO C t0))
    (hn : h.Ns L m) (hL : L ≠ x) (hp : (params.posonlyargs ++ params.args).head? = some ar) (hv : m ar.arg = some (.ref x))
    (hks : scope.names.lookup ("super" : Str) = some .globalImplicit) (hkc : scope.names.lookup ("__class__" : Str) = some .free) (hka : scope.names.lookup ar.arg = some .local) (hk : scope.kind = .function)
    (hq : ∀ h' tk t1, (∀ b o, b ≠ x → h.get? b = some o → h'.get? b = some o) → h'.get? x = some (excO C t1) →
      _root_.PySem.wpAt (model prog w) A (.func body (ksEnv qual scope L fI (.ref cda) cc)) (execs rest (ksEnv qual scope L fI (.ref cda) cc)) Q E ⟨h', g, d, tk, os⟩) :
    _root_.PySem.wpAt (model prog w) A (.func body (ksEnv qual scope L fI (.ref cda) cc)) (execs (supS msg p :: rest) (ksEnv qual scope L fI (.ref cda) cc)) Q E ⟨h, g, d, t, os⟩ := by
  obtain ⟨nm, q, N, bs, P, sn, sub, ab, col, dd, k0, k1, k2, k3, k5, hC⟩ := T.cls
  obtain ⟨oc, od, osl, hf⟩ := T.fn
  obtain ⟨ccl, cdd, vs, ccs, tf, hcode, hvs⟩ := T.co
  obtain ⟨cl, cld, csl, hcell⟩ := T.ce
  obtain ⟨mb, hb1, hb2⟩ := Bn
  have hcl : clsIn K C = some { name := nm, bases := bs, mro := .ref C :: .ref P :: exTail, ns := N, qualname := q, hasDict := true, slotNames := sn, subclasses := sub, abstract := ab, collection := col, hasDel := false } := by unfold clsIn; rw [hC] <;> rfl
  have I : InstAt h x (excO C t0) C none := ⟨hx, rfl, rfl, trivial⟩
  have hxC : x ≠ C := ks_ne X I hcl
  obtain ⟨pl, hmc⟩ := hmc
  refine ks_wpAt_execs_cons (ks_wpAt_Expr_any (ks_wpAt_MethodCall (pl := pl) ?_ (hmc _)) hin rfl)
  refine ks_wpAt_super_base (env := ksEnv qual scope L fI (.ref cda) cc) hks hkc (by decide) rfl (X _ _ hf) rfl hp rfl (X _ _ hcode) rfl hvs (beq_self_eq_true _) T.top ?_
  refine ks_loadName_global hk hks (loadGlobal_builtin (env := ksEnv qual scope L fI (.ref cda) cc) G T.noS hb1 ((hb2 _ (by decide)).trans (by first | rfl | kernel_rfl)) ⟨rfl, ?_⟩)
  refine wpAny_loadName_free hk hkc rfl ⟨_, X _ _ hcell, rfl⟩ ?_
  refine wpAny_loadName_local hk hka hn hv ?_
  refine ks_wpAny_isType_cls (X _ _ hC) rfl ⟨rfl, ?_⟩
  have mC : mroIn K C (.ref C) = some true := by
    unfold mroIn
    rw [hcl, Option.bind_some, if_neg (show ¬ (List.isEmpty (Value.ref C :: .ref P :: exTail) = true) from Bool.false_ne_true), List.contains_cons, beq_self_eq_true, Bool.true_or]
  have mE : mroIn K C (.type "Exception") = some true := by
    unfold mroIn
    rw [hcl, Option.bind_some, if_neg (show ¬ (List.isEmpty (Value.ref C :: .ref P :: exTail) = true) from Bool.false_ne_true), List.contains_cons, bm_has]
    have : exTail.contains (Value.type "Exception") = true := by decide +kernel
    rw [this, Bool.or_true]
  refine ks_wpAny_call_super (X _ _ hC) rfl hx rfl (fun c e => nomatch e) (looks_mroIn X mC) (fun h1 e1 s1 => ?_)
  have X1 : K.In h1 := X.keeps s1
  have hx1 := s1 _ _ hx
  have I1 : InstAt h1 x (excO C t0) C none := ⟨hx1, rfl, rfl, trivial⟩
  have hI : Looks (model prog w) h1 (isInstance (.ref x) (.type "Exception")) true := I1.type.andThen (looks_mroIn X1 mE)
  refine kxs_getMethod kxs_Exception e1 (looks_opaque X1 T.any) (l₀ := .ref C :: .ref P :: exTail) (l := .ref P :: exTail) ?_ (ESX.drop_own C _) X1 ?_ hI hxC (by decide) ?_
  · exact fun A Q E s k q => wpAny_bind ((looks_clsIn X1 hcl) A _ E s k (wpAny_pure q))
  · have al := T.al
    unfold ks_superIn at al
    rw [hcl, Option.bind_some] at al
    show alongIn K "__init__" (.ref P :: exTail) = _
    rw [← ESX.drop_own C (.ref P :: exTail)]
    exact al
  have hu : (h1.push (kxs_mw "Exception.__init__" x)).get? h1.objs.size = some (ESX.bw x) := Heap.get?_push_at rfl rfl
  have up : ∀ b o, h1.get? b = some o → (h1.push (kxs_mw "Exception.__init__" x)).get? b = some o := fun b o e => Heap.get?_push_of_some _ e
  refine ESX.callWith_bound (x := x) ?_
  refine Calls.spliced_cons (Calls.Constant_str (pos := p.p3) (k := 0) (Calls.spliced_nil ⟨hu, ?_⟩))
  refine ESX.call_bw (up _ _ (X1 _ _ hC)) (up _ _ hx1) hu (by show 1 ≤ sizeLine; rw [sizeLine_eq]; omega) fun h' t1 k2 e2 => ?_
  refine hq h' _ t1 (fun b o nb e => k2 b o nb (up _ _ (s1 b o e))) e2

/-- what __init__ leaves of a fresh exception at x: the attribute stored -/
structure InitEnd (h h' : Heap) (x C dx t1 : Addr) (attr : Str) (v : Value) : Prop where
  keep : ∀ b o, b ≠ x → h.get? b = some o → h'.get? b = some o
  obj : h'.get? x = some { cls := .ref C, dict := some dx, data := .fields #[.ref t1, .none, .none, .none, .bool false, .none] }
  dnew : h.get? dx = none
  dne : dx ≠ x
  ns : h'.Ns1 dx (fun y => if y = attr then some v else none)
theorem init1 {R : Result → Shared → Prop} {s : Shared} {attr : Str} {x t0 : Addr} {v : Value} {msg : String} {p : SPos} {b1 b2 q1 q2 q3 q4 : Pos} {args : Args} (hmc : SupOk msg p)
    (T : BadC prog K mg C fI cc cda (ksFn "__init__" qual (aA [("self", b1), (attr, b2)]) [supS msg p, setS attr q1 q2 q3 q4] (sc1 attr) dV kV doc pm an (.ref cda) ct cc))
    (hat : attr ≠ "self" ∧ attr ≠ "super" ∧ attr ≠ "__class__" ∧ attr ≠ "__debug__") (hsa : findIn K (.ref C) "__setattr__" = some (some (.builtin "object.__setattr__"))) (hna : findIn K (.ref C) attr = some none)
    (X : K.In s.heap) (G : s.heap.Ns mainGlobals mg) (Bn : ∃ mb, s.heap.Ns builtinsNs mb ∧ ∀ x : Str, x ≠ "__name__" → mb x = bootBuiltins x) (hlim : s.heap.NoLimit) (hx : s.heap.get? x = some (excO C t0)) (hnx : K.lookup x = none)
    (hroom : A.depth < recursionLimit) (hb : BindsTo s (ksFn "__init__" qual (aA [("self", b1), (attr, b2)]) [supS msg p, setS attr q1 q2 q3 q4] (sc1 attr) dV kV doc pm an (.ref cda) ct cc) args [("self", .ref x), (attr, v)])
    (hq : ∀ h' tk dx t1, InitEnd s.heap h' x C dx t1 attr v → R (.ok (.ret .none)) { s with heap := h', toks := tk }) :
    codeAny (model prog w) A (.call (.ref fI) args) R s := by
  obtain ⟨oc, od, osl, hf⟩ := T.fn
  obtain ⟨nm, q, N, bs, P, sn, sub, ab, col, dd, k0, k1, k2, k3, k5, hC⟩ := T.cls
  have hcl : clsIn K C = some { name := nm, bases := bs, mro := .ref C :: .ref P :: exTail, ns := N, qualname := q, hasDict := true, slotNames := sn, subclasses := sub, abstract := ab, collection := col, hasDel := false } := by unfold clsIn; rw [hC] <;> rfl
  obtain ⟨n1, n2, n3, n4⟩ := hat
  have e1 : (("self" : Str) == attr) = false := by simpa using n1.symm
  have e2 : (("super" : Str) == attr) = false := by simpa using n2.symm
  have e3 : (("__class__" : Str) == attr) = false := by simpa using n3.symm
  have e1' : (attr == ("self" : Str)) = false := by simpa using n1
  have lks : (sc1 attr).names.lookup ("self" : Str) = some .local := rfl
  have lka : (sc1 attr).names.lookup attr = some .local := by
    show (match attr == ("self" : Str) with | true => _ | false => _) = _
    rw [e1']
    show (match attr == attr with | true => _ | false => _) = _
    rw [beq_self_eq_true]
  have lkp : (sc1 attr).names.lookup ("super" : Str) = some .globalImplicit := by
    show (match ("super" : Str) == attr with | true => _ | false => _) = _
    rw [e2]
    rfl
  have lkc : (sc1 attr).names.lookup ("__class__" : Str) = some .free := by
    show (match ("__class__" : Str) == attr with | true => _ | false => _) = _
    rw [e3]
    rfl
  refine ks_codeAny_call_defAt hroom (X _ _ hf) rfl hlim (codeRec_of X T.cd) rfl hb (by
    intro y hy
    simp only [sc1, List.mem_cons, List.not_mem_nil, or_false] at hy
    rcases hy with rfl | rfl | rfl | rfl <;> simp) (fun y hy => ?_) (fun h0 hns k0 => ?_) rfl rfl rfl
  · simp only [List.mem_cons, List.not_mem_nil, or_false] at hy
    rcases hy with rfl | rfl
    · exact lks
    · exact lka
  obtain ⟨mb, hb1, hb2⟩ := Bn
  have hL : s.heap.objs.size ≠ x := Nat.ne_of_gt (Heap.lt_size hx)
  have vS : List.lookup ("self" : Str) [(attr, v), (("self" : Str), Value.ref x)] = some (.ref x) := by
    show (match ("self" : Str) == attr with | true => _ | false => _) = _
    rw [e1]
    rfl
  have vA : List.lookup attr [(attr, v), (("self" : Str), Value.ref x)] = some v := by
    show (match attr == attr with | true => _ | false => _) = _
    rw [beq_self_eq_true]
  refine sup_ok (ar := { arg := "self", annotation := none, pos := b1 }) hmc (by unfold interactive; rfl) T (X.keeps k0) (G.keeps k0) ⟨mb, hb1.keeps k0, hb2⟩ (k0 _ _ hx) hns hL rfl vS lkp lkc lks rfl fun h2 tk2 t1 k2 hx2 => ?_
  refine wpAt_of_wpAny ?_
  refine wpAny_execs_cons (plainObj_wpAny_Assign_Attribute ?_ rfl)
  obtain ⟨oL, esL, epL, hoL, rL⟩ := hns
  have hns2 : h2.Ns s.heap.objs.size (fun y => List.lookup y [(attr, v), (("self" : Str), Value.ref x)]) := ⟨oL, esL, epL, k2 _ _ hL hoL, rL⟩
  refine wpAny_Name (wpAny_loadName_local (v := v) rfl lka hns2 vA ?_) (by simpa using n4)
  refine wpAny_Name (wpAny_loadName_local (v := .ref x) rfl lks hns2 vS ?_) (by decide)
  have neK : ∀ b o, K.lookup b = some o → b ≠ x := fun b o e z => by rw [z, hnx] at e; cases e
  have X2 : K.In h2 := fun b o e => k2 b o (neK b o e) (k0 _ _ (X b o e))
  refine set_plain X2 (ox := excO C t1) (od := none) ⟨hx2, rfl, rfl, trivial⟩ hsa ?_
  refine osa_new2 X2 hx2 hcl rfl rfl hna fun h3 tk3 dx k3 dn dne hx3 hn3 => ?_
  show wpAny _ _ (execs _ _) _ _ _
  have kk : ∀ b o, b ≠ x → s.heap.get? b = some o → h3.get? b = some o := fun b o nb e => k3 b o nb (k2 b o nb (k0 b o e))
  refine wpAny_execs_nil (hq h3 tk3 dx t1 ⟨kk, hx3, ?_, dne, hn3⟩)
  cases e : s.heap.get? dx with
  | none => rfl
  | some o => exact absurd (Nat.lt_of_lt_of_le (Heap.lt_size (k2 dx o dne (k0 dx o e))) dn) (Nat.lt_irrefl _)
/-- .. without a parameter -/
theorem init0 {R : Result → Shared → Prop} {s : Shared} {x t0 : Addr} {msg : String} {p : SPos} {b1 : Pos} {args : Args} (hmc : SupOk msg p)
    (T : BadC prog K mg C fI cc cda (ksFn "__init__" qual (aA [("self", b1)]) [supS msg p] sc0 dV kV doc pm an (.ref cda) ct cc))
    (X : K.In s.heap) (G : s.heap.Ns mainGlobals mg) (Bn : ∃ mb, s.heap.Ns builtinsNs mb ∧ ∀ x : Str, x ≠ "__name__" → mb x = bootBuiltins x) (hlim : s.heap.NoLimit) (hx : s.heap.get? x = some (excO C t0))
    (hroom : A.depth < recursionLimit) (hb : BindsTo s (ksFn "__init__" qual (aA [("self", b1)]) [supS msg p] sc0 dV kV doc pm an (.ref cda) ct cc) args [("self", .ref x)])
    (hq : ∀ h' tk t1, (∀ b o, b ≠ x → s.heap.get? b = some o → h'.get? b = some o) → h'.get? x = some (excO C t1) → R (.ok (.ret .none)) { s with heap := h', toks := tk }) :
    codeAny (model prog w) A (.call (.ref fI) args) R s := by
  obtain ⟨oc, od, osl, hf⟩ := T.fn
  refine ks_codeAny_call_defAt hroom (X _ _ hf) rfl hlim (codeRec_of X T.cd) rfl hb (by
    intro y hy
    simp only [sc0, List.mem_cons, List.not_mem_nil, or_false] at hy
    rcases hy with rfl | rfl | rfl <;> simp) (fun y hy => ?_) (fun h0 hns k0 => ?_) rfl rfl rfl
  · simp only [List.mem_cons, List.not_mem_nil, or_false] at hy
    subst hy
    rfl
  obtain ⟨mb, hb1, hb2⟩ := Bn
  have hL : s.heap.objs.size ≠ x := Nat.ne_of_gt (Heap.lt_size hx)
  refine sup_ok (ar := { arg := "self", annotation := none, pos := b1 }) hmc (by unfold interactive; rfl) T (X.keeps k0) (G.keeps k0) ⟨mb, hb1.keeps k0, hb2⟩ (k0 _ _ hx) hns hL rfl rfl rfl rfl rfl rfl fun h2 tk2 t1 k2 hx2 => ?_
  refine wpAt_of_wpAny ?_
  exact wpAny_execs_nil (hq h2 tk2 t1 (fun b o nb e => k2 b o nb (k0 b o e)) hx2)
end
end L5
end PySem

set_option Elab.async false
set_option linter.all false
set_option maxRecDepth 100000
set_option maxHeartbeats 4000000
/-! L5Made: such a class called: an exception's object, to be raised or kept. -/
namespace L3
open PySem PySem.Spec PyProof.Rows L2 PySem.L5
abbrev exTail : List Value := PySem.ESX.exTail
/-- the builtins as they were at the start -/
def Blt (h : Heap) : Prop := ∃ mb, h.Ns builtinsNs mb ∧ ∀ x : Str, x ≠ "__name__" → mb x = bootBuiltins x
/-- what __init__ does with one parameter, given by place or by name -/
def Init1 (P : Program) (K : PySem.W.Frag) (mg : Str → Option Value) (C fI : Addr) (attr : Str) : Prop :=
  ∀ (w : World) (A : Around) (R : Result → Shared → Prop) (s : Shared) (x t0 : Addr) (v : Value) (args : Args), (args = ⟨[.ref x, v], []⟩ ∨ args = ⟨[.ref x], [(attr, v)]⟩) → K.In s.heap → s.heap.Ns mainGlobals mg → Blt s.heap → s.heap.NoLimit →
    s.heap.get? x = some (HandSPX.excO C t0) → K.lookup x = none → A.depth < recursionLimit → (∀ h' tk dx t1, InitEnd s.heap h' x C dx t1 attr v → R (.ok (.ret .none)) { s with heap := h', toks := tk }) → codeAny (model P w) A (.call (.ref fI) args) R s
/-- .. without a parameter -/
def Init0 (P : Program) (K : PySem.W.Frag) (mg : Str → Option Value) (C fI : Addr) : Prop :=
  ∀ (w : World) (A : Around) (R : Result → Shared → Prop) (s : Shared) (x t0 : Addr), K.In s.heap → s.heap.Ns mainGlobals mg → Blt s.heap → s.heap.NoLimit →
    s.heap.get? x = some (HandSPX.excO C t0) → A.depth < recursionLimit → (∀ h' tk t1, (∀ b o, b ≠ x → s.heap.get? b = some o → h'.get? b = some o) → h'.get? x = some (HandSPX.excO C t1) → R (.ok (.ret .none)) { s with heap := h', toks := tk }) →
    codeAny (model P w) A (.call (.ref fI) ⟨[.ref x], []⟩) R s
/-- the class C, as the written part has it -/
structure BadK (K : PySem.W.Frag) (C fI : Addr) : Prop where
  cls : ∃ nm q N bs P sn sub ab col dd k0 k1 k2 k3 k5, K.lookup C = some (excClassObj nm q C N bs (.ref P :: exTail) true sn sub ab col dd k0 k1 k2 k3 k5 "Exception.__new__")
  iC : PySem.W.findIn K (.ref C) "__init__" = some (some (.ref fI))
  tI : PySem.W.typeIn K (.ref fI) = some (.type "function")
  kC : PySem.W.keepIn K (.ref C) = true
  exC : PySem.W.subIn K (.ref C) (.type "BaseException") = some true
  tyC : PySem.W.typeIn K (.ref C) = some (.type "type")

section
variable {P : Program} {w : World} {A : Around} {R : Result → Shared → Prop} {s : Shared} {K : PySem.W.Frag} {mg : Str → Option Value} {C fI : Addr}
/-- what the call leaves: x the object, dx its dict -/
structure Made1 (h h' : Heap) (x C dx : Addr) (attr : Str) (v : Value) : Prop where
  keep : ∀ b o, h.get? b = some o → h'.get? b = some o
  new : h.get? x = none
  obj : ∃ t1, h'.get? x = some { cls := .ref C, dict := some dx, data := .fields #[.ref t1, .none, .none, .none, .bool false, .none] }
  dnew : h.get? dx = none
  dne : dx ≠ x
  ns : h'.Ns1 dx (fun y => if y = attr then some v else none)
theorem new_none {h : Heap} {a : Addr} (z : h.objs.size ≤ a) : h.get? a = none := by
  cases e : h.get? a with
  | none => rfl
  | some o => exact absurd (Nat.lt_of_lt_of_le (Heap.lt_size e) z) (Nat.lt_irrefl _)
theorem made1 {attr : Str} {v : Value} {args : Args} (T : BadK K C fI) (i : Init1 P K mg C fI attr) (X : K.In s.heap) (G : s.heap.Ns mainGlobals mg) (Bn : Blt s.heap) (hl : s.heap.NoLimit) (room : A.depth + 1 < recursionLimit)
    (ha : args = ⟨[v], []⟩ ∨ args = ⟨[], [(attr, v)]⟩) (hq : ∀ h' tk x dx, Made1 s.heap h' x C dx attr v → R (.ok (.ret (.ref x))) { s with heap := h', toks := tk }) : codeAny (model P w) A (.call (.ref C) args) R s := by
  obtain ⟨nm, q, N, bs, Pa, sn, sub, ab, col, dd, k0, k1, k2, k3, k5, hC⟩ := T.cls
  obtain ⟨hp, g, dr, tk, os⟩ := s
  have go : ∀ (rest : List Value) (kw : List (Str × Value)) (ar : Args), ar = ⟨.ref (hp.objs.size + 1) :: rest, kw⟩ → (ar = ⟨[.ref (hp.objs.size + 1), v], []⟩ ∨ ar = ⟨[.ref (hp.objs.size + 1)], [(attr, v)]⟩) → rest.length ≤ sizeLine →
      codeAny (model P w) A (.call (.ref C) ⟨rest, kw⟩) R ⟨hp, g, dr, tk, os⟩ := by
    intro rest kw ar e1 e2 hz
    have k : ∀ b o, hp.get? b = some o → ((hp.push (PySem.W.kdv_tup rest)).push (HandSPX.excO C hp.objs.size)).get? b = some o := fun b o e => Heap.get?_push_of_some _ (Heap.get?_push_of_some _ e)
    have at_ : ((hp.push (PySem.W.kdv_tup rest)).push (HandSPX.excO C hp.objs.size)).get? (hp.objs.size + 1) = some (HandSPX.excO C hp.objs.size) := by heap_get
    have n1 : hp.get? (hp.objs.size + 1) = none := new_none (Nat.le_succ _)
    have nK : K.lookup (hp.objs.size + 1) = none := by
      cases e : K.lookup (hp.objs.size + 1) with
      | none => rfl
      | some o =>
        have z := X _ _ e
        rw [n1] at z
        cases z
    refine call_kw PySem.F.excBase_Exception (fun Y => bm_has Pa Y) (X _ _ hC) (PySem.W.looks_findIn X T.iC) (fun self => PySem.W.bind_fn X self T.tI) hz ?_
    rw [← e1]
    refine i w _ _ _ _ _ v ar e2 (X.keeps k) (G.keeps k) (let ⟨mb, b1, b2⟩ := Bn; ⟨mb, b1.keeps k, b2⟩) (hl.keeps k) at_ nK (by show A.depth + 1 < recursionLimit; exact room) fun h' tk' dx t1 E => ?_
    have old : ∀ b o, hp.get? b = some o → h'.get? b = some o := fun b o e => E.keep b o (fun z => by rw [z, n1] at e; cases e) (k b o e)
    have dn : hp.get? dx = none := by
      cases e : hp.get? dx with
      | none => rfl
      | some o =>
        have z := k _ _ e
        rw [E.dnew] at z
        cases z
    exact ⟨rfl, hq h' tk' (hp.objs.size + 1) dx ⟨old, n1, ⟨_, E.obj⟩, dn, E.dne, E.ns⟩⟩
  rcases ha with rfl | rfl
  · exact go [v] [] _ rfl (.inl rfl) (by rw [sizeLine_eq]; exact (by decide : 1 ≤ 16777216))
  · exact go [] [(attr, v)] _ rfl (.inr rfl) (Nat.zero_le _)
theorem made0 (T : BadK K C fI) (i : Init0 P K mg C fI) (X : K.In s.heap) (G : s.heap.Ns mainGlobals mg) (Bn : Blt s.heap) (hl : s.heap.NoLimit) (room : A.depth + 1 < recursionLimit)
    (hq : ∀ h' tk x, (∀ b o, s.heap.get? b = some o → h'.get? b = some o) → s.heap.get? x = none → (∃ t1, h'.get? x = some (HandSPX.excO C t1)) → R (.ok (.ret (.ref x))) { s with heap := h', toks := tk }) : codeAny (model P w) A (.call (.ref C) ⟨[], []⟩) R s := by
  obtain ⟨nm, q, N, bs, Pa, sn, sub, ab, col, dd, k0, k1, k2, k3, k5, hC⟩ := T.cls
  obtain ⟨hp, g, dr, tk, os⟩ := s
  have k : ∀ b o, hp.get? b = some o → ((hp.push (PySem.W.kdv_tup [])).push (HandSPX.excO C hp.objs.size)).get? b = some o := fun b o e => Heap.get?_push_of_some _ (Heap.get?_push_of_some _ e)
  have at_ : ((hp.push (PySem.W.kdv_tup [])).push (HandSPX.excO C hp.objs.size)).get? (hp.objs.size + 1) = some (HandSPX.excO C hp.objs.size) := by heap_get
  have n1 : hp.get? (hp.objs.size + 1) = none := new_none (Nat.le_succ _)
  refine call_kw PySem.F.excBase_Exception (fun Y => bm_has Pa Y) (X _ _ hC) (PySem.W.looks_findIn X T.iC) (fun self => PySem.W.bind_fn X self T.tI) (Nat.zero_le _) ?_
  refine i w _ _ _ _ _ (X.keeps k) (G.keeps k) (let ⟨mb, b1, b2⟩ := Bn; ⟨mb, b1.keeps k, b2⟩) (hl.keeps k) at_ (by show A.depth + 1 < recursionLimit; exact room) fun h' tk' t1 k1 e1 => ?_
  exact ⟨rfl, hq h' tk' (hp.objs.size + 1) (fun b o e => k1 b o (fun z => by rw [z, n1] at e; cases e) (k b o e)) n1 ⟨_, e1⟩⟩
end

section
variable {X : Cx} {C fI : Addr} {attr x : Str} {p pos : Pos} {pins : List (Addr × Obj)} {σ : Sl} {H : Hp} {s : Shared}
theorem glob_of (I : Inv X pins σ H s) : s.heap.Ns mainGlobals X.mg := I.mod.glob.keeps I.bk
theorem blt_of (I : Inv X pins σ H s) : Blt s.heap := let ⟨mb, h1, h2⟩ := I.mod.blt; ⟨mb, h1.keeps I.bk, h2⟩
/-- the new object lies ready to be raised -/
theorem mk1 {Q : XK} {v : V} {u : Value} {h' : Heap} {tk : Nat} {a dx : Addr} (T : BadK X.K C fI) (I : Inv X pins σ H s) (rv : RelV v u) (m : Made1 s.heap h' a C dx attr u) (q : ∀ d, H d = none → Q (.ref C) (some d) (upd H d (.xd [(attr, v)]))) :
    L2N.MkP X pins σ Q (.ref a) { s with heap := h', toks := tk } := by
  obtain ⟨t1, ho⟩ := m.obj
  obtain ⟨hp, g, d, t, os⟩ := s
  obtain ⟨G, g1, g2⟩ := restrict h' fun b => decide (b ≠ a)
  have gk : ∀ b, b ≠ a → G.get? b = h'.get? b := fun b hb => g1 b (decide_eq_true hb)
  have ga : G.get? a = none := g2 a (by simp)
  have nd : H dx = none := I.hok.gone m.dnew
  have old : ∀ b o, hp.get? b = some o → G.get? b = some o := fun b o e => (gk b (fun z => by rw [z] at e; rw [show hp.get? a = none from m.new] at e; cases e)).trans (m.keep b o e)
  have nsG : G.Ns1 dx (fun y => if y = attr then some u else none) := m.ns.at fun o e => (gk dx m.dne).trans e
  have ob : ObjOk X.prog X.w (upd H dx (.xd [(attr, v)])) G dx (.xd [(attr, v)]) := ⟨_, nsG, fun f => by
    by_cases hf : f = attr
    · subst hf
      simp only [List.lookup, beq_self_eq_true, if_true]
      exact rv
    · have e : (f == attr) = false := by simpa using hf
      simp only [List.lookup, e, if_neg hf]
      trivial⟩
  have J : Inv X pins σ (upd H dx (.xd [(attr, v)])) ⟨G, g, d, tk, os⟩ := I.laidN (t' := tk) old m.dnew nd ob
  refine ⟨a, _, _, ⟨G, g, d, tk, os⟩, _, .ref C, some dx, rfl, J, fun b o e => ?_, ga, ho, ⟨rfl, rfl, fun vs e => by cases e; rfl⟩, rfl, rfl, ?_, rfl, I.bare, raises_own T.exC T.tyC, q dx nd⟩
  · by_cases hb : b = a
    · rw [hb] at e
      rw [show G.get? a = none from ga] at e
      cases e
    · exact (gk b hb).symm.trans e
  · rw [upd_ne (Ne.symm m.dne)]
    exact I.hok.gone m.new
/-- C(e) -/
def tBad1 (C : Addr) (attr : Str) (ta : TA) : Sl → Hp → XK → Prop := fun σ H Q => ta σ H fun vs H1 => ∃ v, vs = [v] ∧ ∀ d, H1 d = none → Q (.ref C) (some d) (upd H1 d (.xd [(attr, v)]))
theorem pmk_bad1 {e : Expr} {ta : TA} (T : BadK X.K C fI) (i : Init1 X.prog X.K X.mg C fI attr) (gC : X.mg x = some (.ref C)) (room : X.A.depth + 1 < recursionLimit) (ha : PA X [e] ta) (hg : Gl X x)
    (he : starEach (e :: []) X.env = (false, eval e X.env) :: starEach [] X.env := by rfl) (hpl : (backTo pos (starEach [] X.env)).any (·.1) = false := by rfl) (hdb : (x == ("__debug__" : Str)) = false := by decide) :
    L2N.PMk X (.Call (.Name x p) [e] [] pos) (tBad1 C attr ta) := by
  intro pins s σ H Q I h
  refine wpAny_Call_Name_kw (ld_glob I hg gC ?_ hdb)
  refine PySem.W.callWith_K (h₀ := X.base) I.ok.mod.kin T.kC (thn (ha.run pos pins s σ H _ I h) fun us s1 hh => ?_) he hpl
  obtain ⟨vs, H1, I1, r1, v, rfl, q⟩ := hh
  refine ⟨I1.kIn, ?_⟩
  cases r1 with
  | cons rv rn =>
    cases rn
    exact wpAny_call (made1 T i I1.kIn (glob_of I1) (blt_of I1) I1.nolimit room (.inl rfl) fun h' tk a dx m => mk1 T I1 rv m q)
/-- C(attr=e) -/
theorem pmk_badK {e : Expr} {kp : Pos} {ta : TA} (T : BadK X.K C fI) (i : Init1 X.prog X.K X.mg C fI attr) (gC : X.mg x = some (.ref C)) (room : X.A.depth + 1 < recursionLimit) (ha : PK X [⟨some attr, e, kp⟩] ta) (hg : Gl X x)
    (hdb : (x == ("__debug__" : Str)) = false := by decide) (hall : (backToKw pos (keywordEach [⟨some attr, e, kp⟩] X.env)).all (·.1.isSome) = true := by rfl) (hks : (backToKw pos (keywordEach [⟨some attr, e, kp⟩] X.env)).filterMap (·.1) = [attr] := by rfl)
    (hpl : ((backTo pos (starEach [] X.env)).any (·.1) || (backToKw pos (keywordEach [⟨some attr, e, kp⟩] X.env)).any (·.1.isNone)) = false := by rfl) :
    L2N.PMk X (.Call (.Name x p) [] [⟨some attr, e, kp⟩] pos) (tBad1 C attr ta) := by
  intro pins s σ H Q I h
  refine wpAny_Call_Name_kw (ld_glob I hg gC ?_ hdb)
  refine PySem.W.callWith_KW0 (h₀ := X.base) I.ok.mod.kin T.kC hall (thn (ha.run pos pins s σ H _ I h) fun us s1 hh => ?_) hpl
  obtain ⟨vs, H1, I1, r1, v, rfl, q⟩ := hh
  rw [hks]
  refine ⟨I1.kIn, ?_⟩
  cases r1 with
  | cons rv rn =>
    cases rn
    exact wpAny_call (made1 T i I1.kIn (glob_of I1) (blt_of I1) I1.nolimit room (.inr rfl) fun h' tk a dx m => mk1 T I1 rv m q)
/-- C() -/
theorem pmk_bad0 (T : BadK X.K C fI) (i : Init0 X.prog X.K X.mg C fI) (gC : X.mg x = some (.ref C)) (room : X.A.depth + 1 < recursionLimit) (hg : Gl X x) (hdb : (x == ("__debug__" : Str)) = false := by decide) :
    L2N.PMk X (.Call (.Name x p) [] [] pos) (fun _ H Q => Q (.ref C) none H) := by
  intro pins s σ H Q I h
  refine wpAny_Call_Name_kw (ld_glob I hg gC ?_ hdb)
  refine PySem.W.callWith_K0 I.kIn T.kC (wpAny_call (made0 T i I.kIn (glob_of I) (blt_of I) I.nolimit room fun h' tk a k na he => ?_))
  obtain ⟨t1, ho⟩ := he
  obtain ⟨hp, g, d, t, os⟩ := s
  have J : Inv X pins σ H ⟨hp, g, d, tk, os⟩ := I.kept (t' := tk) fun _ _ z => z
  exact ⟨a, _, _, ⟨hp, g, d, tk, os⟩, H, .ref C, none, rfl, J, k, na, ho, ⟨rfl, rfl, fun vs e => by cases e; rfl⟩, rfl, rfl, I.hok.gone na, rfl, I.bare, raises_own T.exC T.tyC, h⟩
/-- C(), the class without an __init__ of its own -/
theorem pmk_plain {B newId initId : String} {bmB : List Value} (F : ExcBaseFacts B newId initId bmB) (q : PySem.W.excIn X.K C bmB newId = true) (gC : X.mg x = some (.ref C)) (kC : PySem.W.keepIn X.K (.ref C) = true) (r : Raises X (.ref C)) (hg : Gl X x) (hdb : (x == ("__debug__" : Str)) = false := by decide) :
    L2N.PMk X (.Call (.Name x p) [] [] pos) (fun _ H Q => Q (.ref C) none H) := by
  intro pins s σ H Q I h
  refine wpAny_Call_Name_kw (ld_glob I hg gC ?_ hdb)
  refine PySem.W.callWith_K0 I.kIn kC ?_
  obtain ⟨bm, N, nm, qn, bs, hdct, sn, sub, ab, col, dd, k0, k1, k2, k3, k5, mN, hC, hN, hni, tl⟩ := exc_obj I.kIn q
  refine wpAny_call_exc_subT F tl hC hN hni (fun h' e hm => ?_) (Nat.zero_le _)
  exact L2N.mk_of I hm r h (I.hok.gone hm.new)
/-- kept as a value -/
theorem pe_of_mk {e : Expr} {t : Sl → Hp → XK → Prop} (he : L2N.PMk X e t) : PE X e (fun σ H Q => t σ H fun cls d H1 => ∀ a, H1 a = none → Q (.ref a) (upd H1 a (ExV cls d a))) := by
  refine ⟨fun pins s σ H Q I h => ?_⟩
  refine wpAny_mono (he pins s σ H _ I h) (fun u s1 hu => ?_) fun _ _ z => z
  obtain ⟨a, oe, vs, sI, H1, cls, d, rfl, J, k, na, ho, hz, hd, _, hn, os, ag, _, q⟩ := hu
  have ob : ObjOk X.prog X.w (upd H1 a (ExV cls d a)) s1.heap a (ExV cls d a) := ⟨⟨oe, vs, ho, hz.1, hz.2.1, hd, hz.2.2 vs hd⟩, ⟨oe, ho⟩, fun h1 h2 z k2 => by
    obtain ⟨o, v, z1, z2⟩ := z
    exact ⟨o, v, k2 o z1, z2⟩⟩
  refine ⟨.ref a, upd H1 a (ExV cls d a), ?_, rfl, q a hn⟩
  exact J.call' (ch := []) os (.laidN k na hn) (J.hok.laidN k hn ob) ag (fun _ z => nomatch z)
end
end L3

set_option Elab.async false
set_option linter.all false
set_option maxRecDepth 100000
set_option maxHeartbeats 4000000
/-! L5Exc: an exception's object as a value: its attributes, isinstance; an except clause that holds it so. -/
namespace L3
open PySem PySem.Spec PyProof.Rows L2 PySem.L5

/-! ### attributes, isinstance -/
/-- how the class's instances answer -/
structure ExcA (K : PySem.W.Frag) (C : Addr) : Prop where
  ga : PySem.W.findIn K (.ref C) "__getattribute__" = some (some (.builtin "BaseException.__getattribute__"))
  gg : PySem.W.findIn K (.ref C) "__getattr__" = some none
  ex : PySem.W.subIn K (.ref C) (.type "BaseException") = some true
  hd : PySem.W.hasDictIn K C = true
  ac : PySem.W.findIn K (.ref C) "__class__" = some (some (.builtin "object.__class__"))
  dg : PySem.W.specialIn K (.builtin "object.__class__") "__get__" = some (some (.builtin "getset_descriptor.__get__"))
  tk : PySem.W.takesIn K (.builtin "object.__class__") = some true
  mo : PySem.W.mroIn K C (.type "object") = some true

section
variable {prog : Program} {w : World} {A : Around} {E : Value → Shared → Prop} {s : Shared} {K : PySem.W.Frag} {x C : Addr} {ox : Obj} {od : Option Obj}
theorem find_class (T : ExcA K C) : PySem.W.findObj K C od "__class__" = some (.bind (.builtin "getset_descriptor.__get__") (.builtin "object.__class__")) := by
  obtain ⟨cd, hc, _⟩ := PySem.W.any_some T.hd
  unfold PySem.W.findObj
  simp [hc, T.ac, T.dg, T.tk]
/-- x.__class__, as isinstance asks it -/
theorem ask_class {Q : Option Value → Shared → Prop} (T : ExcA K C) (X : K.In s.heap) (I : PySem.W.InstAt s.heap x ox C od) (h : Q (some (.ref C)) { s with toks := s.toks + 1 }) : wpAny (model prog w) A (getAttr? (.ref x) "__class__") Q E s := by
  obtain ⟨hp, g, d, t, os⟩ := s
  have ty := I.type (M := model prog w)
  have base : PySem.W.Looks (model prog w) hp (isInstance (.ref x) (.type "BaseException")) true := ty.andThen (PySem.W.looks_subIn X T.ex)
  have no : (onTheHeap (Value.ref C) && Value.builtin "BaseException.__getattribute__" == Value.builtin "object.__getattribute__") = false := by
    rw [show (Value.builtin "BaseException.__getattribute__" == Value.builtin "object.__getattribute__") = false by decide +kernel]
    rfl
  unfold getAttr? getAttrBy? getAttrBy
  refine wpAny_bind (wpAny_mkText (wpAny_bind (wpAny_attempt (wpAny_holding (wpAny_bind (ty.at (wpAny_bind ((PySem.W.looks_findIn (M := model prog w) X T.ga).at ?_))))))))
  show wpAny _ _ (if (onTheHeap (Value.ref C) && Value.builtin "BaseException.__getattribute__" == Value.builtin "object.__getattribute__") = true then _ else _) _ _ _
  rw [no, if_neg Bool.false_ne_true]
  unfold getAttrByItsOwn hookBefore
  rw [if_pos (show onTheHeap (Value.ref C) = true from rfl)]
  refine wpAny_bind ((PySem.W.looks_findIn (M := model prog w) X T.gg).at ?_)
  refine wpAny_bind (wpAny_attempt (wpAny_holding ?_))
  unfold callGetattribute
  rw [show (false && onTheHeap (Value.builtin "BaseException.__getattribute__")) = false from rfl, if_neg Bool.false_ne_true]
  unfold boundAndCalled
  rw [PySem.F.excAttr_ValueError.ga.bind (.ref x)]
  refine wpAny_bind (wpAny_pure ?_)
  show wpAny _ _ (call (.builtin "BaseException.__getattribute__") [.ref x, .str "__class__" t]) _ _ _
  refine wpAny_call (codeAny_call_builtin PySem.F.excAttr_ValueError.ga.plain PySem.F.entry_bexc_ga (@PySem.W.check_slot (model prog w) _ _ ⟨hp, g, d, t + 1, os⟩ "BaseException.__getattribute__" "BaseException" "__getattribute__" (.ref x) [.str "__class__" t] [] _ (by decide +kernel) (by decide +kernel) base (PySem.F.args_bexc_ga (.ref x) (.str "__class__" t)) ?_))
  unfold Builtin.«object.__getattribute__»
  have two : slotArgs "__getattribute__" 1 ⟨[.ref x, .str "__class__" t], []⟩ = (pure ((Value.ref x : Value), [Value.str "__class__" t]) : Sem (Value × List Value)) := by first | rfl | (simp only [slotArgs]; rfl)
  refine wpAny_bind (wpAny_of_eq (a := ((Value.ref x : Value), [Value.str "__class__" t])) (by first | exact two | rfl | (simp only [slotArgs]; rfl)) ?_)
  refine wpAny_bind (wpAny_pure (wpAny_bind (ty.at (wpAny_bind ((PySem.W.looks_find (M := model prog w) X I (find_class T)).at ?_)))))
  show wpAny _ _ (holding [Value.builtin "object.__class__"] (call (.builtin "getset_descriptor.__get__") [.builtin "object.__class__", .ref x, .ref C]) >>= ret) _ _ _
  refine wpAny_bind (wpAny_holding (wpAny_call (PySem.W.class_get (s := ⟨hp, g, d, t + 1, os⟩) (ox := ox) (od := od) X I T.mo (wpAny_pure ?_))))
  show wpAny _ _ (handedOut (.ref C)) _ _ _
  rw [PySem.W.handedOut_of (v := .ref C) rfl]
  first
    | exact wpAny_pure (wpAny_pure h)
    | exact wpAny_pure h
    | exact wpAny_pure (wpAny_bind (wpAny_pure (wpAny_pure h)))
theorem kit_exc (T : ExcA K C) : PySem.W.KitX K (.ref x) (.ref C) (fun h => ∃ ox od, PySem.W.InstAt h x ox C od) where
  ty := fun _ _ _ ⟨_, _, I⟩ => I.type
  it := fun _ _ X _ => by
    obtain ⟨cd, hc, _⟩ := PySem.W.any_some T.hd
    intro A' Q' E' s' k q
    unfold PySem.W.clsIn at hc
    split at hc
    · rename_i ho
      unfold isType loadHead
      exact wpAny_bind (wpAny_loadPart (k _ _ (X _ _ ho)) (wpAny_pure q))
    · cases hc
  ne := fun h tp dd its n sl X htp => by
    obtain ⟨cd, hc, _⟩ := PySem.W.any_some T.hd
    refine beq_eq_false_iff_ne.mpr fun e => ?_
    cases e
    unfold PySem.W.clsIn at hc
    split at hc
    · rename_i ho
      have z := (X _ _ ho).symm.trans htp
      cases z
    · cases hc
  ca := fun X ⟨_, _, I⟩ k => ask_class T X I k
end

section
variable {X : Cx} {C a : Addr} {od : Option Addr} {pins : List (Addr × Obj)} {σ : Sl} {H : Hp} {s : Shared} {fs : List (Str × V)}
/-- the object as the library's rules see it -/
theorem exc_at (I : Inv X pins σ H s) (e : H a = some (ExV (.ref C) od a)) : ∃ oe, s.heap.get? a = some oe ∧ oe.cls = .ref C ∧ oe.dict = od ∧ PySem.W.notCls oe = true := by
  obtain ⟨⟨oe, vs, ho, hc, hd, hf, _⟩, _⟩ := I.hok a _ e
  exact ⟨oe, ho, hc, hd, by unfold PySem.W.notCls; rw [hf]⟩
theorem exc_inst0 (I : Inv X pins σ H s) (e : H a = some (ExV (.ref C) none a)) : ∃ oe, PySem.W.InstAt s.heap a oe C none := by
  obtain ⟨oe, ho, hc, hd, hn⟩ := exc_at I e
  exact ⟨oe, ho, hc, hn, by rw [hd]; trivial⟩
theorem exc_inst1 {dx : Addr} (I : Inv X pins σ H s) (e : H a = some (ExV (.ref C) (some dx) a)) (ed : H dx = some (.xd fs)) : ∃ oe o, PySem.W.InstAt s.heap a oe C (some o) ∧ ∃ mA : Str → Option Value, (∀ name, PySem.W.lookIn name o = some (mA name)) ∧ ∀ f, RelO (fs.lookup f) (mA f) := by
  obtain ⟨oe, ho, hc, hd, hn⟩ := exc_at I e
  obtain ⟨mA, ns, r⟩ := I.hok dx _ ed
  obtain ⟨o, ho2, hl⟩ := lookIn_ns ns
  exact ⟨oe, o, ⟨ho, hc, hn, by rw [hd]; exact ho2⟩, mA, hl, r⟩
/-- an exception's object: its dict, if it has one, is known -/
def ExHas (H : Hp) : Option Addr → Prop
  | none => True
  | some dx => ∃ fs, H dx = some (.xd fs)
theorem exc_inst (I : Inv X pins σ H s) (e : H a = some (ExV (.ref C) od a)) (h : ExHas H od) : ∃ ox o, PySem.W.InstAt s.heap a ox C o := by
  cases od with
  | none =>
    obtain ⟨oe, i⟩ := exc_inst0 I e
    exact ⟨oe, none, i⟩
  | some dx =>
    obtain ⟨fs, ed⟩ := h
    obtain ⟨oe, o, i, _⟩ := exc_inst1 I e ed
    exact ⟨oe, some o, i⟩
/-- isinstance(e, c) -/
def rIsX (K : PySem.W.Frag) : List V → Hp → VK → Prop := fun xs H Q => ∃ (a C : Addr) (od : Option Addr) (c : V) (u : Value) (b : Bool), xs = [.ref a, c] ∧ H a = some (ExV (.ref C) od a) ∧ ExHas H od ∧ ExcA K C ∧ ClsV c u ∧ PySem.W.kitOne K (.ref C) u = some b ∧ Q (.bl b) H
theorem call_isX {X : Cx} : CallR X (.builtin "isinstance") (rIsX X.K) := by
  intro pins s σ H xs us Q I r h
  obtain ⟨a, C, od, c, u, b, rfl, e, hx, T, kc, ek, q⟩ := h
  cases r with
  | cons rx rr =>
    cases rr with
    | cons rt rr =>
      cases rr
      cases rx
      have eu := kc.eq rt
      subst eu
      exact PySem.W.kia_one (kit_exc T) I.kIn (exc_inst I e hx) ek (fun z => nomatch z) fun tk => ⟨.bl b, H, I.kept (t' := tk) fun _ _ z => z, rfl, q⟩
/-- e.attr -/
theorem pe_attrX {attr : Str} {e : Expr} {te : TE} {pos : Pos} {noG : PySem.W.findIn X.K (.ref C) attr = some none} (T : ExcA X.K C) (he : PE X e te) (hb : attributeBase e attr X.env (eval e X.env) = eval e X.env := by rfl) :
    PE X (.Attribute e attr pos) (fun σ H Q => te σ H fun x H1 => ∃ a dx fs v, x = .ref a ∧ H1 a = some (ExV (.ref C) (some dx) a) ∧ H1 dx = some (.xd fs) ∧ fs.lookup attr = some v ∧ Q v H1) := by
  refine ⟨fun pins s σ H Q I h => ?_⟩
  refine attr_of hb (thn (he.run pins s σ H _ I h) fun u s1 hh => ?_)
  obtain ⟨x, H1, I1, rx, a, dx, fs, v, rfl, e1, e2, l, q⟩ := hh
  obtain rfl : u = Value.ref a := rx
  obtain ⟨oe, o, i, mA, hl, r⟩ := exc_inst1 I1 e1 e2
  obtain ⟨u, hu, ru⟩ := RelO.some_of (v := v) (o := mA attr) (by rw [← l]; exact r attr)
  exact HandSPX.exc_get I1.kIn i T.ga T.gg T.ex (PySem.W.findObj_own T.hd noG rfl (by rw [hl, hu])) (handed_of ru) ⟨v, H1, I1.tok _, ru, q⟩
end

/-! ### try: body / except x as n: suite, n an exception's object that is tracked -/
section
variable {X : Cx} {pins : List (Addr × Obj)} {σ : Sl} {H : Hp} {s : Shared}
/-- the handled exception, from pinned to tracked -/
theorem trackE {a : Addr} {oe : Obj} {vs : Array Value} {pn : List (Addr × Obj)} (I : Inv (X.suite a ((a, oe) :: pn)) [] σ H s) (ha : s.heap.get? a = some oe) (hd : oe.data = .fields vs) (hv : vs[2]? = some .none) (na : H a = none) (new : X.s_0.heap.get? a = none) (apart : ∀ p ∈ pn, p.1 ≠ a) :
    Inv (X.suite a pn) [] σ (upd H a (ExV oe.cls oe.dict a)) s := by
  have ob : ObjOk X.prog X.w (upd H a (ExV oe.cls oe.dict a)) s.heap a (ExV oe.cls oe.dict a) := ⟨⟨oe, vs, ha, rfl, rfl, hd, hv⟩, ⟨oe, ha⟩, fun h1 h2 ⟨o, v, z1, z2⟩ k => ⟨o, v, k o z1, z2⟩⟩
  have ne : ∀ b o, X.s_0.heap.get? b = some o → b ≠ a := fun b o e z => by rw [z, new] at e; cases e
  have neH : ∀ b o, H b = some o → b ≠ a := fun b o e => ne_of_none e na
  obtain ⟨hL, nL⟩ : a ≠ X.env.locals ∧ a ∉ X.fs := by
    obtain ⟨_, _, h1, h2, _⟩ := I.pin (a, oe) (by simp)
    exact ⟨h1, h2⟩
  refine ⟨⟨I.ok.mod, I.ok.kind, I.ok.glob, I.ok.blt, I.ok.above, I.ok.inj, I.ok.has, I.ok.cab, I.ok.hd, I.ok.frames, I.ok.stk, I.ok.exf, I.ok.bs, I.ok.bsz, I.ok.noex, I.ok.exfs, I.ok.funs, I.ok.frf⟩, I.os, I.bare, ?_, I.loc, I.cell, ?_, fun x c e => ?_, fun p hp => ?_, I.hok.laidN (fun _ _ z => z) na ob, I.len⟩
  · refine ⟨I.base.keep, I.base.slot, fun b o e n x => ?_, I.base.there, fun b xs e => ?_, fun b o u e => ?_, fun b ps e => ?_⟩
    · rw [upd_ne (ne b o e)]
      exact I.base.free b o e n x
    · have z := I.base.tups b xs e
      rw [upd_ne (neH _ _ z)]
      exact z
    · have z := I.base.frzs b o u e
      rw [upd_ne (neH _ _ z)]
      exact z
    · obtain ⟨m, z⟩ := I.base.tbls b ps e
      exact ⟨m, by rw [upd_ne (neH _ _ z)]; exact z⟩
  · show upd H a _ X.env.locals = none
    rw [upd_ne hL.symm]
    exact I.free
  · obtain ⟨v, o, z, zd⟩ := I.cell x c e
    have nc : c ≠ a := fun q => by
      rw [q, ha] at z
      cases z
      rw [hd] at zd
      cases zd
    rw [upd_ne nc]
    exact I.freeC x c e
  · have hp' : p ∈ pn := by
      have z : p ∈ pn ++ [] := hp
      rwa [List.append_nil] at z
    obtain ⟨e, n, ne2, nf, d⟩ := I.pin p (by simp [hp'])
    exact ⟨e, by rw [upd_ne (apart p hp')]; exact n, ne2, nf, d⟩
theorem leaveSuite {a : Addr} (I : Inv (X.suite a (X.pn ++ pins)) [] σ H s) (ok : X.Ok) : Inv X pins σ H s :=
  ⟨ok, I.os, I.bare, I.base, I.loc, I.cell, I.free, I.freeC, fun p hp => I.pin p (by rw [List.append_nil]; exact hp), I.hok, I.len⟩
/-- what the clause wishes of an exception of the body: it is caught, and the suite runs with its object tracked at slot i -/
def wTr (K : PySem.W.Frag) (c : Value) (i : Nat) (ts : Addr → TS) (D : Ends) : WX := fun cls d σ H =>
  PySem.W.exmOne K cls c = some true ∧ ∀ a, H a = none → ts a { nx := fun σ' H' => D.nx (σ'.set i none) H', rt := D.rt, bk := fun σ' H' => D.bk (σ'.set i none) H', ct := fun σ' H' => D.ct (σ'.set i none) H' } (σ.set i (some (.ref a))) (upd H a (ExV cls d a))
variable {x n : Str} {c : Value} {i : Nat} {body suite : List Stmt} {b0 : Stmt} {np pos pos' : Pos} {tb : WX → TS} {ts : Addr → TS}
theorem ps_try_tr (hs : X.stack = X.env :: X.outer) (hf : X.env.frame = some X.env.locals) (hx : X.ex = []) (hN : X.N.Nodup) (hi : X.N[i]? = some n) (hln : X.env.kindOf n = some .local) (hc : Names X x c)
    (hb : ∀ (W : WX) (pn : List (Addr × Obj)) (xe : Value → Shared → Prop), L2N.Takes (X.tr pn xe) W → PassesOwn (model X.prog X.w) X.A X.env xe → PSs (X.tr pn xe) body (tb W))
    (hsu : ∀ (a : Addr) (pn : List (Addr × Obj)), PSs (X.suite a pn) (b0 :: suite) (ts a)) :
    PS X (.Try body [.ExceptHandler (some (.Name x np)) (some n) (b0 :: suite) pos'] [] [] pos) (fun D σ H => tb (wTr X.K c i ts D) D σ H) := by
  refine ⟨fun pins s σ H D I h => ?_⟩
  have ok := I.ok
  have frames : X.A.frames = some (X.env :: X.outer) := by rw [ok.frames, hs]
  have caught : ∀ (u : Value) (s' : Shared), L2N.XE (X.tr (X.pn ++ pins) (fun e t1 => wpAny (model X.prog X.w) X.A (noteFrame e X.env) (fun _ t2 => wpAny (model X.prog X.w) X.A (setFlight e none) (fun _ t3 =>
      wpAny (model X.prog X.w) X.A (handleBy e X.env [.ExceptHandler (some (.Name x np)) (some n) (b0 :: suite) pos']) (SP X pins D) X.xe t3) X.xe t2) X.xe t1)) (wTr X.K c i ts D) u s' →
      wpAny (model X.prog X.w) X.A (noteFrame u X.env) (fun _ t2 => wpAny (model X.prog X.w) X.A (setFlight u none) (fun _ t3 =>
        wpAny (model X.prog X.w) X.A (handleBy u X.env [.ExceptHandler (some (.Name x np)) (some n) (b0 :: suite) pos']) (SP X pins D) X.xe t3) X.xe t2) X.xe s' := by
    rintro u s' ⟨a, B, sI, pins', σ1, H1, cls, d, rfl, J0, nb, up, sky, na, os, ag, yes, go⟩
    have J : Inv X pins σ1 H1 sI := J0.ofTry ok
    have fl0 : Sky B (X.env :: X.outer) a (L2N.Zn cls d) X.env.locals s'.heap := hs ▸ sky
    -- the object is new: it isn't of the ground
    have notB : B.get? a = none := by
      rcases fl0 with z | z | z
      · exact z.2.1
      · exact z.2.1
      · exact z.2.1
    refine L2N.Sky.land L2N.Zn.steady frames hf fl0 fun h3 fl3 up3 => ?_
    have J3 : Inv X pins σ1 H1 { s' with heap := h3 } := J.landed nb fl3.1 (up.trans up3) os ag
    have noFrame : ∀ {g : Heap} {o : Obj} {vs : Array Value}, g.FunFrames B (X.env :: X.outer) → g.get? a = some o → o.data = .fields vs → a ∉ frs (X.env :: X.outer) := fun {g o vs} ff e dd hm => by
      obtain ⟨_, o', e', hnf⟩ := ff.mem hm
      rw [e] at e'
      cases e'
      exact hnf _ dd
    obtain ⟨oe3, vs3, he3, hz3, hd3⟩ := fl3.there
    have nfr := noFrame fl3.2.2.1 he3 hd3
    have nL : a ≠ X.env.locals := fun z => nfr (List.mem_filterMap.mpr ⟨X.env, List.mem_cons_self, by rw [hf, z]⟩)
    have nF : a ∉ X.fs := fun hm => by
      obtain ⟨e, he, q⟩ := List.mem_filterMap.mp hm
      exact nfr (List.mem_filterMap.mpr ⟨e, List.mem_cons_of_mem _ he, q⟩)
    have new : X.s_0.heap.get? a = none := by
      cases e : X.s_0.heap.get? a with
      | none => rfl
      | some o =>
        obtain ⟨o', e'⟩ := J.base.there a o e (by rw [hx]; exact fun z => nomatch z)
        have z := nb a o' e' (by rw [hs]; exact nfr)
        rw [notB] at z
        cases z
    have S3 := J3.suite he3 hd3 na nL nF
    refine wpAny_handleBy_cons (codeAny_handlers_test ?_) (by intro q; cases q)
    have lt : PySem.W.Looks (model X.prog X.w) h3 (typeOf (.ref a)) cls := fun A Q E t k q => wpAny_typeOf_ref (k _ _ he3) (by rw [hz3.1]; exact q)
    have lm := PySem.W.exm_one (M := model X.prog X.w) (J3.kIn) lt yes
    have named : ∀ {Q : Value → Shared → Prop} {E : Value → Shared → Prop}, Q c { s' with heap := h3 } → wpAny (model X.prog X.w) (X.A.mark (some (.ref a))) (eval (.Name x np) X.env) Q E { s' with heap := h3 } := fun {Q E} q => by
      obtain ⟨hg, hdb, hm | ⟨hm, hv, hnn⟩⟩ := hc
      · exact ld_glob (X := X.suite a ((a, oe3) :: (X.pn ++ pins))) S3 hg hm q hdb
      · exact ld_blt (X := X.suite a ((a, oe3) :: (X.pn ++ pins))) S3 hg hm hv q hnn hdb
    refine named (lm.here (codeAny_handlers_suite_as ?_))
    refine HandSPX.lands_againZ fl3 fun h4 fl4 up4 => ?_
    have J4 : Inv X pins σ1 H1 { s' with heap := h4 } := J.landed nb fl4.1 ((up.trans up3).trans up4) os ag
    obtain ⟨oe4, vs4, he4, hz4, hd4⟩ := fl4.there
    have S4 := J4.suite he4 hd4 na nL nF
    refine store_ok (X := X.suite a ((a, oe4) :: (X.pn ++ pins))) (v := .ref a) S4 hN hi (.inl hln) rfl (fun s5 S5 => ?_) (.inr hln)
    obtain ⟨he5, _⟩ := S5.pin (a, oe4) (by simp)
    have apart : ∀ p ∈ X.pn ++ pins, p.1 ≠ a := fun p hp z => by
      have q := (J.pin p hp).1
      rw [z] at q
      have q2 := nb a _ q (by rw [hs]; exact nfr)
      rw [notB] at q2
      cases q2
    have T5 := trackE S5 he5 hd4 (hz4.2.2 _ hd4) na new apart
    rw [hz4.1, hz4.2.1] at T5
    have over : ∀ {s6 : Shared} {σ6 : Sl} {H6 : Hp} {Q : Shared → Prop}, Inv (X.suite a (X.pn ++ pins)) [] σ6 H6 s6 → (∀ s7, Inv X pins (σ6.set i none) H6 s7 → Q s7) →
        wpAny (model X.prog X.w) X.A (do bindName X.env n .none; unbindBehindTheSuite X.env n pos') (fun _ s7 => Q s7) X.xe s6 := fun {s6 σ6 H6 Q} S6 hq => gone_ok (leaveSuite S6 ok) hN hi hln hq
    refine wpAny_mono ((hsu a (X.pn ++ pins)).run [] s5 _ _ _ T5 (go a na)) (fun f s6 z => ?_) (fun _ _ z => False.elim z)
    cases f with
    | next => exact let ⟨σ6, H6, S6, q6⟩ := z; over S6 fun s7 J7 => ⟨_, _, J7, q6⟩
    | brk => exact let ⟨σ6, H6, S6, q6⟩ := z; over S6 fun s7 J7 => ⟨_, _, J7, q6⟩
    | cont => exact let ⟨σ6, H6, S6, q6⟩ := z; over S6 fun s7 J7 => ⟨_, _, J7, q6⟩
    | ret u => exact let ⟨v6, σ6, H6, S6, r6, q6⟩ := z; over S6 fun s7 J7 => ⟨_, _, _, J7, r6, q6⟩
  refine wpAny_Try_except (wpAny_mono ((hb (wTr X.K c i ts D) (X.pn ++ pins) _ caught PassesOwn.looking).run [] s σ H D (I.toTry _) h) (fun f s1 z => ?_) fun _ _ z => z)
  cases f with
  | next => exact let ⟨σ1, H1, J, q⟩ := z; wpAny_execs_nil ⟨σ1, H1, J.ofTry ok, q⟩
  | brk => exact let ⟨σ1, H1, J, q⟩ := z; ⟨σ1, H1, J.ofTry ok, q⟩
  | cont => exact let ⟨σ1, H1, J, q⟩ := z; ⟨σ1, H1, J.ofTry ok, q⟩
  | ret u => exact let ⟨v, σ1, H1, J, r, q⟩ := z; ⟨v, σ1, H1, J.ofTry ok, r, q⟩
end
end L3

set_option Elab.async false
set_option linter.all false
set_option maxRecDepth 100000
set_option maxHeartbeats 4000000
/-! L5D: exceptions in plain functions. -/
namespace L3
open PySem PySem.Spec PyProof.Rows L2 PySem.L5

/-! ### an exception made -/
/-- an exception of the class c with n attributes -/
def mexc (c n : Nat) (fs : M3 (List D)) : M3 D := fs.bind fun ds _ w => if ds.length = n then .ok (.exc c none ds) w else .bad
section
variable {M : Ms} {B : Bs} {F : FS} {env : Env3} {w : Wd} {σ : Sl} {H : Hp} {Q : VK}
/-- two new objects: the exception's and its dict -/
theorem Cor.exc1 {c : Nat} {d : D} {v : V} {attr : Str} {a dx : Addr} (k : Cor M B F env w σ H) (hN : M.nm c = [attr]) (r : RelD M F H d v) (hd : H dx = none) (ha : upd H dx (.xd [(attr, v)]) a = none) (p : Post M F H (.ok (.exc c none [d]) w) Q) :
    Q (.ref a) (upd (upd H dx (.xd [(attr, v)])) a (ExV (.ref (M.cl c)) (some dx) a)) := by
  have g1 := Grow.new (o := .xd [(attr, v)]) k.gd.dom k.gd.world hd
  have g2 := Grow.new (o := ExV (.ref (M.cl c)) (some dx) a) g1.dom g1.world ha
  have ne : dx ≠ a := ne_of_none (upd_same (H := H) (a := dx) (o := .xd [(attr, v)])) ha
  refine p _ _ _ (g1.trans g2) ⟨a, some dx, [v], rfl, (fun _ z => by cases z), .inr rfl, upd_same, ⟨.inl (.inr rfl), by rw [hN]; rfl, ?_⟩, v, [], rfl, RelD.mono (g1.trans g2).sub (g1.trans g2).ext _ _ r, rfl⟩
  rw [upd_ne ne, upd_same, hN]
  rfl
theorem Cor.exc0 {c : Nat} {a : Addr} (k : Cor M B F env w σ H) (ha : H a = none) (p : Post M F H (.ok (.exc c none []) w) Q) : Q (.ref a) (upd H a (ExV (.ref (M.cl c)) none a)) := by
  have g := Grow.new (o := ExV (.ref (M.cl c)) none a) k.gd.dom k.gd.world ha
  exact p _ _ _ g ⟨a, none, [], rfl, (fun _ z => by cases z), .inr rfl, upd_same, rfl, rfl⟩
end
section
variable {X : Cx} {M : Ms} {fI : Addr} {attr x : Str} {p pos : Pos} {e : Expr} {fs : M3 (List D)} {c : Nat}
/-- how a made exception with one attribute is told -/
theorem tb_exc1 (hN : M.nm c = [attr]) : ∀ σ H Q, T3 M (mexc c 1 fs) σ H Q → tBad1 (M.cl c) attr (T3a M fs) σ H fun cls d H1 => ∀ a, H1 a = none → Q (.ref a) (upd H1 a (ExV cls d a)) := by
  intro σ H Q ⟨B, F, env, w, k, p⟩
  refine T3a.mono (T3a.bind' (P := fun r F H => Post M F H r Q) k p (fun _ _ h => h) fun _ _ _ _ _ _ g p => p.grow g) fun vs H1 ⟨F1, w1, ds, g1, k1, r1, p1⟩ => ?_
  split at p1
  · rename_i hl
    match ds, hl, r1, p1 with
    | [d], _, r1, p1 =>
      obtain ⟨v, us, rfl, r, rn⟩ := r1
      have rn : us = [] := rn
      subst rn
      exact ⟨v, rfl, fun dx hd a ha => k1.exc1 hN r hd ha p1⟩
  · exact p1.elim
theorem e3_exc1 (T : BadK X.K (M.cl c) fI) (i : Init1 X.prog X.K X.mg (M.cl c) fI attr) (gC : X.mg x = some (.ref (M.cl c))) (room : X.A.depth + 1 < recursionLimit) (ha : PA X [e] (T3a M fs)) (hN : M.nm c = [attr]) (hg : Gl X x)
    (he : starEach (e :: []) X.env = (false, eval e X.env) :: starEach [] X.env := by rfl) (hpl : (backTo pos (starEach [] X.env)).any (·.1) = false := by rfl) (hdb : (x == ("__debug__" : Str)) = false := by decide) :
    PE X (.Call (.Name x p) [e] [] pos) (T3 M (mexc c 1 fs)) := PEi (pe_of_mk (pmk_bad1 T i gC room ha hg he hpl hdb)) (tb_exc1 hN)
theorem e3_excK {kp : Pos} (T : BadK X.K (M.cl c) fI) (i : Init1 X.prog X.K X.mg (M.cl c) fI attr) (gC : X.mg x = some (.ref (M.cl c))) (room : X.A.depth + 1 < recursionLimit) (ha : PK X [⟨some attr, e, kp⟩] (T3a M fs)) (hN : M.nm c = [attr]) (hg : Gl X x)
    (hdb : (x == ("__debug__" : Str)) = false := by decide) (hall : (backToKw pos (keywordEach [⟨some attr, e, kp⟩] X.env)).all (·.1.isSome) = true := by rfl) (hks : (backToKw pos (keywordEach [⟨some attr, e, kp⟩] X.env)).filterMap (·.1) = [attr] := by rfl)
    (hpl : ((backTo pos (starEach [] X.env)).any (·.1) || (backToKw pos (keywordEach [⟨some attr, e, kp⟩] X.env)).any (·.1.isNone)) = false := by rfl) :
    PE X (.Call (.Name x p) [] [⟨some attr, e, kp⟩] pos) (T3 M (mexc c 1 fs)) := PEi (pe_of_mk (pmk_badK T i gC room ha hg hdb hall hks hpl)) (tb_exc1 hN)
theorem tb_exc0 : ∀ σ H Q, T3 M (mexc c 0 anil) σ H Q → ∀ a, H a = none → Q (.ref a) (upd H a (ExV (.ref (M.cl c)) none a)) := by
  intro σ H Q ⟨B, F, env, w, k, p⟩ a ha
  exact k.exc0 ha p
theorem e3_exc0 (T : BadK X.K (M.cl c) fI) (i : Init0 X.prog X.K X.mg (M.cl c) fI) (gC : X.mg x = some (.ref (M.cl c))) (room : X.A.depth + 1 < recursionLimit) (hg : Gl X x) (hdb : (x == ("__debug__" : Str)) = false := by decide) :
    PE X (.Call (.Name x p) [] [] pos) (T3 M (mexc c 0 anil)) := PEi (pe_of_mk (pmk_bad0 T i gC room hg hdb)) tb_exc0
theorem e3_excP {Bs' newId initId : String} {bmB : List Value} (F : ExcBaseFacts Bs' newId initId bmB) (q : PySem.W.excIn X.K (M.cl c) bmB newId = true) (gC : X.mg x = some (.ref (M.cl c))) (kC : PySem.W.keepIn X.K (.ref (M.cl c)) = true) (r : Raises X (.ref (M.cl c))) (hg : Gl X x)
    (hdb : (x == ("__debug__" : Str)) = false := by decide) : PE X (.Call (.Name x p) [] [] pos) (T3 M (mexc c 0 anil)) := PEi (pe_of_mk (pmk_plain F q gC kC r hg hdb)) tb_exc0

/-! ### attributes, isinstance -/
variable {fe : M3 D}
def matt (c : Nat) (fe : M3 D) : M3 D := fe.bind fun d _ w => match d with
  | .exc k _ [v] => if k = c then .ok v w else .bad
  | _ => .bad
theorem e3_att {noG : PySem.W.findIn X.K (.ref (M.cl c)) attr = some none} (T : ExcA X.K (M.cl c)) (he : PE X e (T3 M fe)) (hN : M.nm c = [attr]) (hb : attributeBase e attr X.env (eval e X.env) = eval e X.env := by rfl) : PE X (.Attribute e attr pos) (T3 M (matt c fe)) := by
  refine PEi (pe_attrX (noG := noG) T he hb) fun σ H Q ⟨B, F, env, w, k, p⟩ => ?_
  refine T3.mono (T3.bind' (P := fun r F H => Post M F H r Q) k p (fun _ _ h => h) fun _ _ _ _ _ _ g p => p.grow g) fun v H1 ⟨F1, w1, d, g1, k1, r1, p1⟩ => ?_
  split at p1
  · rename_i k' at' d'
    split at p1
    · rename_i e2
      subst e2
      obtain ⟨a, od, xs, rfl, _, fa, ha, ex, y, ys, rfl, ry, rn⟩ := r1
      have rn : ys = [] := rn
      subst rn
      cases od with
      | none => cases ex
      | some dx =>
        obtain ⟨fd, _, hx⟩ := ex
        refine ⟨a, dx, _, y, rfl, ha, hx, ?_, Post.val k1 p1 ry⟩
        rw [hN]
        simp [List.lookup]
    · exact p1.elim
  · exact p1.elim
/-- isinstance(e, C): f tells the answer class by class -/
def misx (f : Nat → Option Bool) (fe : M3 D) : M3 D := fe.bind fun d _ w => match d with
  | .exc c _ _ => match f c with
    | some b => .ok (.bl b) w
    | none => .bad
  | _ => .bad
theorem e3_isx {f : Nat → Option Bool} {cv : Value} {ce : Expr} {vc : V} (hg : Gl X "isinstance") (hm : X.mg "isinstance" = none) (hce : PE X ce (tC vc)) (hcv : ClsV vc cv) (hf : ∀ c b, f c = some b → PySem.W.kitOne X.K (.ref (M.cl c)) cv = some b ∧ ExcA X.K (M.cl c)) (he : PE X e (T3 M fe))
    (hs : starEach (e :: [ce]) X.env = (false, eval e X.env) :: starEach [ce] X.env := by rfl) (hs2 : starEach [ce] X.env = (false, eval ce X.env) :: starEach [] X.env := by rfl) (hpl : (backTo pos (starEach [ce] X.env)).any (·.1) = false := by rfl) :
    PE X (.Call (.Name "isinstance" p) [e, ce] [] pos) (T3 M (misx f fe)) := by
  refine PEi (pe_callB call_isX hg hm boot_isinstance (pa_cons he (pa_cons hce pa_nil hs2) hs) (by decide) (by decide) hs hpl) fun σ H Q ⟨B, F, env, w, k, p⟩ => ?_
  refine T3.mono (T3.bind' (P := fun r F H => Post M F H r Q) k p (fun _ _ h => h) fun _ _ _ _ _ _ g p => p.grow g) fun v H1 ⟨F1, w1, d, g1, k1, r1, p1⟩ => ?_
  split at p1
  · rename_i c at' ds
    cases ef : f c with
    | none => rw [ef] at p1; exact p1.elim
    | some b =>
      rw [ef] at p1
      obtain ⟨a, od, xs, rfl, _, fa, ha, ex, _⟩ := r1
      obtain ⟨k1', T⟩ := hf c b ef
      refine ⟨a, _, od, vc, cv, b, rfl, ha, ?_, T, hcv, k1', Post.val k1 p1 rfl⟩
      cases od with
      | none => trivial
      | some dx => exact ⟨_, ex.2.2⟩
  · exact p1.elim
end

/-! ### statements that may raise -/
inductive X3 where
  | s (r : S3) | exc (c : Nat) (ds : List D) (env : Env3) (w : Wd)
abbrev StX := Env3 → Wd → X3
abbrev WX3 := Value → Option Addr → Sl → Hp → Prop
def PostX (M : Ms) (B : Bs) (F : FS) (H : Hp) (D0 : Ends) (W : WX3) : X3 → Prop
  | .s r => PostS M B F H D0 r
  | .exc c ds env w => ∀ F' σ' H' od xs, Cor M B F' env w σ' H' → Mono F H F' H' → RelDs M F' H' ds xs → ExD F' H' (M.nm c) xs od → W (.ref (M.cl c)) od σ' H'
theorem PostX.grow {M : Ms} {B : Bs} {F F1 : FS} {H H1 : Hp} {D0 : Ends} {W : WX3} {r : X3} (m : Mono F H F1 H1) (p : PostX M B F H D0 W r) : PostX M B F1 H1 D0 W r := by
  cases r with
  | s r => exact PostS.grow m p
  | exc c ds env w => exact fun F' σ' H' od xs k m' => p F' σ' H' od xs k (m.trans m')
def TS3X (M : Ms) (W : WX3) (g : StX) : TS := fun D0 σ H => ∃ B F env w, Cor M B F env w σ H ∧ PostX M B F H D0 W (g env w)
def xlift (g : St3) : StX := fun env w => .s (g env w)
def xseq (f g : StX) : StX := fun env w => match f env w with
  | .s (.nx e w') => g e w'
  | r => r
def xif (gc : M3 Bool) (f g : StX) : StX := fun env w => match gc env w with
  | .ok true w' => f env w'
  | .ok false w' => g env w'
  | .bad => .s .bad
def xraise (c n : Nat) (fs : M3 (List D)) : StX := fun env w => match fs env w with
  | .ok ds w' => if ds.length = n then .exc c ds env w' else .s .bad
  | .bad => .s .bad
section
variable {X : Cx} {M : Ms} {W : WX3} {st : Stmt} {rest a b : List Stmt} {f g : StX} {h : St3} {e t : Expr} {pos : Pos} {gc : M3 Bool} {fs : M3 (List D)}
theorem sx_lift (hs : PS X st (TS3 M h)) : PS X st (TS3X M W (xlift h)) := PSi hs fun D0 σ H z => z
theorem ssx_lift (hs : PSs X rest (TS3 M h)) : PSs X rest (TS3X M W (xlift h)) := PSsi hs fun D0 σ H z => z
theorem sx_cons (h1 : PS X st (TS3X M W f)) (h2 : PSs X rest (TS3X M W g)) : PSs X (st :: rest) (TS3X M W (xseq f g)) := by
  refine PSsi (pss_cons h1 h2) fun D0 σ H ⟨B, F, env, w, k, p⟩ => ⟨B, F, env, w, k, ?_⟩
  unfold xseq at p
  cases ef : f env w with
  | exc c ds e1 w1 => rw [ef] at p; exact p
  | s r =>
    rw [ef] at p
    cases r with
    | nx e1 w1 => exact fun F' σ' H' k' m => ⟨B, F', e1, w1, k', p.grow m⟩
    | ct e1 w1 => exact p
    | bk e1 w1 => exact p
    | ret d w1 => exact p
    | bad => exact p
theorem sx_one (h1 : PS X st (TS3X M W f)) : PSs X [st] (TS3X M W f) := pss_one h1
theorem sx_nil : PSs X [] (TS3X M W (xlift snil)) := ssx_lift s3_nil
theorem sx_if (hc : PT X t (T3t M gc)) (ha : PSs X a (TS3X M W f)) (hb : PSs X b (TS3X M W g)) : PS X (.If t a b pos) (TS3X M W (xif gc f g)) := by
  refine PSi (ps_if hc ha hb) fun D0 σ H ⟨B, F, env, w, k, p⟩ => ⟨B, F, env, w, k, ?_⟩
  unfold xif at p
  cases ef : gc env w with
  | bad => rw [ef] at p; exact p.elim
  | ok v w' =>
    rw [ef] at p
    intro F' H' gr
    cases v with
    | true => rw [if_pos rfl]; exact ⟨B, F', env, w', k.grow gr, PostX.grow gr.mono p⟩
    | false => rw [if_neg Bool.false_ne_true]; exact ⟨B, F', env, w', k.grow gr, PostX.grow gr.mono p⟩
/-- raise C(e) -/
theorem sx_raise1 {c : Nat} {fI : Addr} {attr x : Str} {p0 p1 : Pos} (hc : X.calm = true) (tk : L2N.Takes X W) (T : BadK X.K (M.cl c) fI) (i : Init1 X.prog X.K X.mg (M.cl c) fI attr) (gC : X.mg x = some (.ref (M.cl c))) (room : X.A.depth + 1 < recursionLimit) (ha : PA X [e] (T3a M fs)) (hN : M.nm c = [attr]) (hg : Gl X x)
    (he : starEach (e :: []) X.env = (false, eval e X.env) :: starEach [] X.env := by rfl) (hpl : (backTo p1 (starEach [] X.env)).any (·.1) = false := by rfl) (hdb : (x == ("__debug__" : Str)) = false := by decide) :
    PS X (.Raise (some (.Call (.Name x p0) [e] [] p1)) none pos) (TS3X M W (xraise c 1 fs)) := by
  refine PSi (L2N.ps_raise hc tk (pmk_bad1 T i gC room ha hg he hpl hdb)) fun D0 σ H ⟨B, F, env, w, k, p⟩ => ⟨B, F, env, w, k, ?_⟩
  unfold xraise at p
  cases ef : fs env w with
  | bad => rw [ef] at p; exact p.elim
  | ok ds w' =>
    rw [ef] at p
    dsimp only at p
    intro F' H' vs gr r
    by_cases hl : ds.length = 1
    · rw [if_pos hl] at p
      match ds, hl, r, p with
      | [d], _, r, p =>
        obtain ⟨v, us, rfl, rv, rn⟩ := r
        have rn : us = [] := rn
        subst rn
        refine ⟨v, rfl, fun dx hd => ?_⟩
        have k' := k.grow gr
        have g2 := Grow.new (o := .xd [(attr, v)]) k'.gd.dom k'.gd.world hd
        exact p _ σ _ (some dx) [v] (k'.grow g2) (gr.trans g2).mono ⟨v, [], rfl, RelD.mono g2.sub g2.ext _ _ rv, rfl⟩ ⟨.inr rfl, by rw [hN]; rfl, by rw [upd_same, hN]; rfl⟩
    · rw [if_neg hl] at p
      exact p.elim
theorem sx_raise0 {c : Nat} {fI : Addr} {x : Str} {p0 p1 : Pos} (hc : X.calm = true) (tk : L2N.Takes X W) (T : BadK X.K (M.cl c) fI) (i : Init0 X.prog X.K X.mg (M.cl c) fI) (gC : X.mg x = some (.ref (M.cl c))) (room : X.A.depth + 1 < recursionLimit) (hg : Gl X x) (hdb : (x == ("__debug__" : Str)) = false := by decide) :
    PS X (.Raise (some (.Call (.Name x p0) [] [] p1)) none pos) (TS3X M W (xraise c 0 anil)) :=
  PSi (L2N.ps_raise hc tk (pmk_bad0 T i gC room hg hdb)) fun D0 σ H ⟨B, F, env, w, k, p⟩ => p F σ H none [] k .refl rfl rfl

/-! ### try: body / except C as n: suite -/
def outS (i : Nat) : S3 → S3
  | .nx e w => .nx (e.set i none) w
  | .ct e w => .ct (e.set i none) w
  | .bk e w => .bk (e.set i none) w
  | r => r
/-- g: what the suite does with an exception of the class c and its attributes -/
def stry (f : StX) (g : Nat → List D → St3) : St3 := fun env w => match f env w with
  | .s r => r
  | .exc c ds e w' => g c ds e w'
theorem Cor.unset {B : Bs} {F : FS} {env : Env3} {w : Wd} {σ : Sl} {H : Hp} (k : Cor M B F env w σ H) (i : Nat) : Cor M B F (env.set i none) w (σ.set i none) H where
  gd := k.gd
  len := by simp [k.len]
  fro := fun j d h => by
    by_cases ij : i = j
    · subst ij
      rw [List.getElem?_set_self' ] at h
      cases z : env[i]? <;> rw [z] at h <;> cases h
    · rw [List.getElem?_set_ne ij] at h ⊢
      exact k.fro j d h
  own := fun j d h => by
    by_cases ij : i = j
    · subst ij
      rw [List.getElem?_set_self' ] at h
      cases z : env[i]? <;> rw [z] at h <;> cases h
    · rw [List.getElem?_set_ne ij] at h ⊢
      exact k.own j d h
  sep := fun j l d d' v h1 h2 h3 h4 => by
    by_cases ij : i = j
    · subst ij
      rw [List.getElem?_set_self' ] at h1
      cases z : env[i]? <;> rw [z] at h1 <;> cases h1
    · by_cases il : i = l
      · subst il
        rw [List.getElem?_set_self' ] at h2
        cases z : env[i]? <;> rw [z] at h2 <;> cases h2
      · rw [List.getElem?_set_ne ij] at h1 h3
        rw [List.getElem?_set_ne il] at h2 h4
        exact k.sep j l d d' v h1 h2 h3 h4
theorem s3_try {i : Nat} {x n : Str} {cv : Value} {body suite : List Stmt} {b0 : Stmt} {np pos' : Pos} {h : Addr → St3} {g : Nat → List D → St3} (hs : X.stack = X.env :: X.outer) (hf : X.env.frame = some X.env.locals) (hx : X.ex = []) (hN : X.N.Nodup) (hi : X.N[i]? = some n) (hln : X.env.kindOf n = some .local) (hc : Names X x cv)
    (hb : ∀ (W : WX3) (pn : List (Addr × Obj)) (xe : Value → Shared → Prop), L2N.Takes (X.tr pn xe) W → PassesOwn (model X.prog X.w) X.A X.env xe → PSs (X.tr pn xe) body (TS3X M W f))
    (hsu : ∀ (a : Addr) (pn : List (Addr × Obj)), PSs (X.suite a pn) (b0 :: suite) (TS3 M (h a)))
    (hg : ∀ a c ds e w, g c ds e w ≠ .bad → outS i (h a (e.set i (some (false, .exc c (some a) ds))) w) = g c ds e w ∧ i < e.length ∧ PySem.W.exmOne X.K (.ref (M.cl c)) cv = some true) :
    PS X (.Try body [.ExceptHandler (some (.Name x np)) (some n) (b0 :: suite) pos'] [] [] pos) (TS3 M (stry f g)) := by
  refine PSi (ps_try_tr (tb := fun W => TS3X M W f) (ts := fun a => TS3 M (h a)) hs hf hx hN hi hln hc hb hsu) fun D0 σ H ⟨B, F, env, w, k, p⟩ => ⟨B, F, env, w, k, ?_⟩
  unfold stry at p
  cases ef : f env w with
  | s r => rw [ef] at p; exact p
  | exc c ds e1 w1 =>
    rw [ef] at p
    dsimp only at p
    have nb : g c ds e1 w1 ≠ .bad := fun z => by rw [z] at p; exact p
    intro F' σ' H' od xs k' m r ex
    refine ⟨(hg 0 c ds e1 w1 nb).2.2, fun a ha => ?_⟩
    obtain ⟨eq, hi', _⟩ := hg a c ds e1 w1 nb
    have gr := Grow.new (o := ExV (.ref (M.cl c)) od a) k'.gd.dom k'.gd.world ha
    have kk := k'.grow gr
    have re : RelD M (fun b => F' b ∨ b = a) (upd H' a (ExV (.ref (M.cl c)) od a)) (.exc c (some a) ds) (.ref a) := ⟨a, od, xs, rfl, (fun b z => by cases z; rfl), .inr rfl, upd_same, ex.mono gr.sub gr.ext, RelDs.mono gr.sub gr.ext _ _ r⟩
    refine ⟨B, _, _, w1, kk.setF re i, ?_⟩
    have mm := m.trans gr.mono
    rw [← eq] at p
    cases eh : h a (e1.set i (some (false, .exc c (some a) ds))) w1 with
    | nx e2 w2 => rw [eh] at p; exact fun F2 σ2 H2 k2 m2 => p F2 _ H2 (k2.unset i) (mm.trans m2)
    | ct e2 w2 => rw [eh] at p; exact fun F2 σ2 H2 k2 m2 => p F2 _ H2 (k2.unset i) (mm.trans m2)
    | bk e2 w2 => rw [eh] at p; exact fun F2 σ2 H2 k2 m2 => p F2 _ H2 (k2.unset i) (mm.trans m2)
    | ret d w2 => rw [eh] at p; exact fun F2 H2 v g2 m2 r2 => p F2 H2 v g2 (mm.trans m2) r2
    | bad => rw [eh] at p; exact p.elim
end
end L3

set_option Elab.async false
set_option linter.all false
set_option maxRecDepth 100000
set_option maxHeartbeats 4000000
/-! L5Repr: repr of data with dicts in it. -/
namespace L3
open PySem PySem.Spec PyProof.Rows L2
mutual
/-- data as Python shows it, dicts too -/
def pq : D → Option PyData
  | .non => some .none
  | .bl b => some (.bool b)
  | .int i => some (.int i)
  | .str s => some (.str s)
  | .tup ds => (pqs ds).map .tuple
  | .lst ds => (pqs ds).map .list
  | .dic t kvs => if t then none else (pqk kvs).map .dict
  | _ => none
def pqs : List D → Option (List PyData)
  | [] => some []
  | d :: ds => (pq d).bind fun x => (pqs ds).map fun xs => x :: xs
def pqk : List (D × D) → Option (List (PyData × PyData))
  | [] => some []
  | (k, d) :: r => (pq k).bind fun a => (pq d).bind fun b => (pqk r).map fun t => (a, b) :: t
end

section
variable {P : Program} {W : World} {h : Heap}
/-- u is the datum x, and repr can tell it -/
def Sh (P : Program) (W : World) (h : Heap) (u : Value) (x : PyData) : Prop :=
  ∃ as bs, Reads h u x as ∧ ReadAtMost h x.depth bs ∧ ReprK P W bs h x.depth u x.shown
def ShA (P : Program) (W : World) (h : Heap) (us : List Value) (xs : List PyData) : Prop :=
  ∃ as bs, ReadsAll h us xs as ∧ ReadAtMost h (PyData.depthAll xs) bs ∧ ReprAllK P W bs h (PyData.depthAll xs) us (PyData.shownAll xs)
theorem Sh.leaf {u : Value} {x : PyData} (r : Reads h u x []) (k : ReprIs P W u x.shown) : Sh P W h u x := ⟨[], [], r, (fun _ z => nomatch z), .of_is k _ _ _⟩
theorem ShA.nil : ShA P W h [] [] := ⟨[], [], .nil, (fun _ z => nomatch z), by simp only [PyData.shownAll]; exact .nil⟩
theorem ShA.cons {u : Value} {us : List Value} {x : PyData} {xs : List PyData} (a : Sh P W h u x) (b : ShA P W h us xs) : ShA P W h (u :: us) (x :: xs) := by
  obtain ⟨a1, b1, r1, m1, k1⟩ := a
  obtain ⟨a2, b2, r2, m2, k2⟩ := b
  have l1 : x.depth ≤ PyData.depthAll (x :: xs) := by simp only [PyData.depthAll]; exact Nat.le_max_left _ _
  have l2 : PyData.depthAll xs ≤ PyData.depthAll (x :: xs) := by simp only [PyData.depthAll]; exact Nat.le_max_right _ _
  refine ⟨_, b1 ++ b2, .cons r1 r2, (m1.mono l1).append (m2.mono l2), ?_⟩
  rw [PyData.shownAll]
  have k1' := (k1.more (as' := b1 ++ b2) fun _ z => List.mem_append.mpr (.inl z)).level_le l1
  have k2' := k2.more_le (as' := b1 ++ b2) (fun _ z => List.mem_append.mpr (.inr z)) l2
  exact .cons k1' k2'
theorem Sh.lst {a n : Nat} {o : Obj} {vs : Array Value} {xs : List PyData} (ho : h.get? a = some o) (hc : o.cls = .type "list") (hd : o.data = .seq vs n) (b : ShA P W h vs.toList xs) : Sh P W h (.ref a) (.list xs) := by
  obtain ⟨as, bs, r, m, k⟩ := b
  have R := Reads.list ho hc hd r
  have lt : PyData.depthAll xs < (PyData.list xs).depth := by simp only [PyData.depth]; omega
  have na := not_mem_of_deeper R lt m
  refine ⟨_, a :: bs, R, ReadAtMost.cons R (Nat.le_of_lt lt) m, ?_⟩
  have e1 : (PyData.list xs).depth = PyData.depthAll xs + 1 := by simp only [PyData.depth]
  have e2 : (PyData.list xs).shown = listText (PyData.shownAll xs) := by simp only [PyData.shown]
  rw [e1, e2]
  obtain ⟨l⟩ := vs
  cases l with
  | nil =>
    have r' : ReadsAll h [] xs as := r
    cases r'
    exact ReprK.listEmpty ho hc hd
  | cons y l => exact ReprK.list ho hc hd na (by rw [k.length_eq]; simp) fun i z ez => k.item i z (by simpa using ez)
theorem Sh.tup {a n : Nat} {o : Obj} {vs : Array Value} {xs : List PyData} (ho : h.get? a = some o) (hc : o.cls = .type "tuple") (hd : o.data = .seq vs n) (b : ShA P W h vs.toList xs) : Sh P W h (.ref a) (.tuple xs) := by
  obtain ⟨as, bs, r, m, k⟩ := b
  have R := Reads.tuple ho hc hd r
  have lt : PyData.depthAll xs < (PyData.tuple xs).depth := by simp only [PyData.depth]; omega
  refine ⟨_, a :: bs, R, ReadAtMost.cons R (Nat.le_of_lt lt) m, ?_⟩
  have e1 : (PyData.tuple xs).depth = PyData.depthAll xs + 1 := by simp only [PyData.depth]
  have e2 : (PyData.tuple xs).shown = tupleText (PyData.shownAll xs) := by simp only [PyData.shown]
  rw [e1, e2]
  exact ReprK.tuple ho hc hd (not_mem_of_deeper R lt m) k
theorem Sh.dic {a n : Nat} {o : Obj} {es : Array DictEntry} {kvs : List (PyData × PyData)} (ho : h.get? a = some o) (hc : o.cls = .type "dict") (hd : o.data = .dict es n) (hs : (a == sysModules) = false)
    (b : ShA P W h (es.toList.map (·.key)) (kvs.map (·.1))) (c : ShA P W h (es.toList.map (·.val)) (kvs.map (·.2))) : Sh P W h (.ref a) (.dict kvs) := by
  obtain ⟨a1, b1, r1, m1, k1⟩ := b
  obtain ⟨a2, b2, r2, m2, k2⟩ := c
  have R := Reads.dict ho hc hd r1 r2
  have lt : PyData.depthKv kvs < (PyData.dict kvs).depth := by simp only [PyData.depth]; omega
  have d1 := PyData.depthAll_keys_le kvs
  have d2 := PyData.depthAll_vals_le kvs
  have m := (m1.mono d1).append (m2.mono d2)
  refine ⟨_, a :: (b1 ++ b2), R, ReadAtMost.cons R (Nat.le_of_lt lt) m, ?_⟩
  have e1 : (PyData.dict kvs).depth = PyData.depthKv kvs + 1 := by simp only [PyData.depth]
  have e2 : (PyData.dict kvs).shown = dictText (List.zipWith (fun k v : Str => k ++ ": " ++ v) (PyData.shownAll (kvs.map (·.1))) (PyData.shownAll (kvs.map (·.2)))) := by simp only [PyData.shown, PyData.shownKv_eq]
  rw [e1, e2]
  have k1' := k1.more_le (as' := b1 ++ b2) (fun _ z => List.mem_append.mpr (.inl z)) d1
  have k2' := k2.more_le (as' := b1 ++ b2) (fun _ z => List.mem_append.mpr (.inr z)) d2
  exact ReprK.dict ho hc hd hs (not_mem_of_deeper R lt m) (ReprEntriesK.of_two es.toList _ _ k1' k2')
end

section
variable {X : Cx} {pins : List (Addr × Obj)} {σ : Sl} {H : Hp} {s : Shared} {M : Ms} {F : FS}
theorem pq_key {q : Key} {x : PyData} {u : Value} (e : pq (keyD q) = some x) (k : keyIs q u = true) (sh : x.showable = true) (sz : x.shown.length ≤ sizeLine) : Sh X.prog X.w s.heap u x := by
  rcases keyIs_shape k with ⟨i, t, rfl, rfl⟩ | ⟨z, t, rfl, rfl⟩
  · cases e
    simp only [PyData.showable, decide_eq_true_eq] at sh
    exact .leaf (.int i t) (by simp only [PyData.shown]; exact ReprIs.int t sh)
  · cases e
    simp only [PyData.shown] at sz
    exact .leaf (.str z t) (by simp only [PyData.shown]; exact ReprIs.str z t sz)
mutual
theorem sh_of (I : Inv X pins σ H s) (hK : M.K = X.K) : ∀ (d : D) (v : V) (u : Value) (x : PyData), RelD M F H d v → RelV v u → pq d = some x → x.showable = true → x.shown.length ≤ sizeLine → Sh X.prog X.w s.heap u x
  | .non, _, u, x, r, ru, e, _, _ => by
    cases (show _ = V.non from r)
    cases (show u = Value.none from ru)
    simp only [pq] at e
    cases e
    exact .leaf .none (by simp only [PyData.shown]; exact ReprIs.none)
  | .bl b, _, u, x, r, ru, e, _, _ => by
    cases (show _ = V.bl b from r)
    cases (show u = Value.bool b from ru)
    simp only [pq] at e
    cases e
    exact .leaf (.bool b) (by simp only [PyData.shown]; exact ReprIs.bool b)
  | .int i, _, u, x, r, ru, e, sh, _ => by
    cases (show _ = V.int i from r)
    obtain ⟨t, rfl⟩ := (show ∃ t, u = Value.int i t from ru)
    simp only [pq] at e
    cases e
    simp only [PyData.showable, decide_eq_true_eq] at sh
    exact .leaf (.int i t) (by simp only [PyData.shown]; exact ReprIs.int t sh)
  | .str z, _, u, x, r, ru, e, _, sz => by
    cases (show _ = V.str z from r)
    obtain ⟨t, rfl⟩ := (show ∃ t, u = Value.str z t from ru)
    simp only [pq] at e
    cases e
    simp only [PyData.shown] at sz
    exact .leaf (.str z t) (by simp only [PyData.shown]; exact ReprIs.str z t sz)
  | .tup ds, _, u, x, ⟨a, xs, rfl, q, r⟩, ru, e, sh, sz => by
    cases (show u = Value.ref a from ru)
    simp only [pq] at e
    cases ep : pqs ds with
    | none => rw [ep] at e; cases e
    | some ys =>
      rw [ep] at e
      cases e
      simp only [PyData.showable] at sh
      simp only [PyData.shown] at sz
      obtain ⟨its, rv, ⟨o, ho, hc, n, hd⟩, _⟩ := I.tuple (hK ▸ q.sq)
      exact .tup ho hc hd (shs_of I hK ds xs its ys r rv ep sh fun t ht => Nat.le_trans (tupleText_mem_le ht) sz)
  | .lst ds, _, u, x, ⟨a, xs, rfl, q, r⟩, ru, e, sh, sz => by
    cases (show u = Value.ref a from ru)
    simp only [pq] at e
    cases ep : pqs ds with
    | none => rw [ep] at e; cases e
    | some ys =>
      rw [ep] at e
      cases e
      simp only [PyData.showable] at sh
      simp only [PyData.shown] at sz
      obtain ⟨its, rv, ⟨o, n, ho, hc, _, hd⟩, _⟩ := I.list (hK ▸ q.sq)
      exact .lst ho hc hd (shs_of I hK ds xs its ys r rv ep sh fun t ht => Nat.le_trans (listText_mem_le ht) sz)
  | .dic false kvs, _, u, x, ⟨a, o, ps, rfl, _, q, r⟩, ru, e, sh, sz => by
    cases (show u = Value.ref a from ru)
    simp only [pq, Bool.false_eq_true, if_false] at e
    cases ep : pqk kvs with
    | none => rw [ep] at e; cases e
    | some ys =>
      rw [ep] at e
      cases e
      simp only [PyData.showable] at sh
      simp only [PyData.shown] at sz
      obtain ⟨ho, hz, hs, vs, kv, o', es, n, ho', hx, hd, _, pr, _⟩ := I.hok a _ q
      rw [ho] at ho'
      cases ho'
      obtain ⟨s1, s2⟩ := PyData.showableKv_split ys sh
      obtain ⟨z1, z2⟩ := shk_of I hK kvs ps vs es.toList ys r kv pr ep s1 s2
        (fun t ht => let ⟨p, hp, hl⟩ := PyData.shownKv_key_le ys t ht; Nat.le_trans hl (Nat.le_trans (dictText_mem_le hp) sz))
        (fun t ht => let ⟨p, hp, hl⟩ := PyData.shownKv_val_le ys t ht; Nat.le_trans hl (Nat.le_trans (dictText_mem_le hp) sz))
      exact .dic ho hx.1 hd hs z1 z2
  | .dic true _, _, _, _, _, _, e, _, _ => by simp only [pq, if_true] at e; cases e
  | .obj _ _, _, _, _, _, _, e, _, _ => by simp only [pq] at e; cases e
  | .exc _ _ _, _, _, _, _, _, e, _, _ => by simp only [pq] at e; cases e
  | .deck, _, _, _, _, _, e, _, _ => by simp only [pq] at e; cases e
  | .glb _, _, _, _, _, _, e, _, _ => by simp only [pq] at e; cases e
theorem shs_of (I : Inv X pins σ H s) (hK : M.K = X.K) : ∀ (ds : List D) (vs : List V) (us : List Value) (xs : List PyData), RelDs M F H ds vs → Vals vs us → pqs ds = some xs → PyData.showableAll xs = true → (∀ t ∈ PyData.shownAll xs, t.length ≤ sizeLine) → ShA X.prog X.w s.heap us xs
  | [], _, us, xs, r, rv, e, _, _ => by
    cases (show _ = [] from r)
    cases rv
    simp only [pqs] at e
    cases e
    exact .nil
  | d :: ds, _, us, xs, ⟨v, vs, rfl, r1, r2⟩, rv, e, sh, sz => by
    cases rv with
    | cons ra rb =>
      simp only [pqs] at e
      cases e1 : pq d with
      | none => rw [e1] at e; cases e
      | some y =>
        rw [e1] at e
        cases e2 : pqs ds with
        | none => rw [e2] at e; cases e
        | some ys =>
          rw [e2] at e
          cases e
          simp only [PyData.showableAll, Bool.and_eq_true] at sh
          simp only [PyData.shownAll, List.mem_cons, forall_eq_or_imp] at sz
          exact .cons (sh_of I hK d v _ y r1 ra e1 sh.1 sz.1) (shs_of I hK ds vs _ ys r2 rb e2 sh.2 sz.2)
theorem shk_of (I : Inv X pins σ H s) (hK : M.K = X.K) : ∀ (kvs : List (D × D)) (ps : List (Key × V)) (vs : List (Key × Value)) (es : List DictEntry) (xs : List (PyData × PyData)), RelKs M F H kvs ps → KV ps vs → Pairs (mixKind X.prog X.w) es vs → pqk kvs = some xs →
    PyData.showableAll (xs.map (·.1)) = true → PyData.showableAll (xs.map (·.2)) = true → (∀ t ∈ PyData.shownAll (xs.map (·.1)), t.length ≤ sizeLine) → (∀ t ∈ PyData.shownAll (xs.map (·.2)), t.length ≤ sizeLine) →
    ShA X.prog X.w s.heap (es.map (·.key)) (xs.map (·.1)) ∧ ShA X.prog X.w s.heap (es.map (·.val)) (xs.map (·.2))
  | [], _, vs, es, xs, r, kv, pr, e, _, _, _, _ => by
    cases (show _ = [] from r)
    cases kv
    cases pr
    simp only [pqk] at e
    cases e
    exact ⟨.nil, .nil⟩
  | (k, d) :: kvs, _, vs, es, xs, ⟨q, v, ps, rfl, ek, r1, r2⟩, kv, pr, e, s1, s2, z1, z2 => by
    cases kv with
    | cons ra rb =>
      obtain ⟨ra1, ra2⟩ := ra
      cases pr with
      | cons p1 p2 p3 =>
        subst ek
        simp only [pqk] at e
        cases e1 : pq (keyD q) with
        | none => rw [e1] at e; cases e
        | some y =>
          rw [e1] at e
          cases e2 : pq d with
          | none => rw [e2] at e; cases e
          | some z =>
            rw [e2] at e
            cases e3 : pqk kvs with
            | none => rw [e3] at e; cases e
            | some ys =>
              rw [e3] at e
              cases e
              simp only [List.map_cons, PyData.showableAll, Bool.and_eq_true] at s1 s2
              simp only [List.map_cons, PyData.shownAll, List.mem_cons, forall_eq_or_imp] at z1 z2
              obtain ⟨i1, i2⟩ := shk_of I hK kvs ps _ _ ys r2 rb p3 e3 s1.2 s2.2 z1.2 z2.2
              have kk := p1
              rw [← (show q = _ from ra1)] at kk
              refine ⟨.cons (pq_key e1 kk s1.1 z1.1) i1, .cons ?_ i2⟩
              show Sh X.prog X.w s.heap _ z
              rw [show (fun x : DictEntry => x.val) _ = _ from p2]
              exact sh_of I hK d v _ z r1 ra2 e2 s2.1 z2.1
end
end

/-! ### repr of a list with things in it -/
def rRepr2 (M : Ms) : List V → Hp → VK → Prop := fun vs H Q => ∃ (a : Addr) (F : FS) (ds : List D) (us : List V) (xs : List PyData), vs = [.ref a] ∧ SqL M.K H a us ∧ ds ≠ [] ∧ RelDs M F H ds us ∧ pqs ds = some xs ∧
  PyData.showableAll xs = true ∧ PyData.depthAll xs ≤ 60 ∧ (listText (PyData.shownAll xs)).length ≤ sizeLine ∧ Q (.str (listText (PyData.shownAll xs))) H
theorem call_repr2 {X : Cx} {M : Ms} (hK : M.K = X.K) (hg : X.A.guards = some []) (hu : X.A.units + 64 < cLine) : CallR X (.builtin "repr") (rRepr2 M) := by
  intro pins s σ H xs us Q I r h
  obtain ⟨a, F, ds, vs, ys, rfl, hq, hne, rd, ep, h1, h2, h3, q⟩ := h
  obtain ⟨u, rfl, ru⟩ := vals1 r
  obtain rfl : u = Value.ref a := ru
  obtain ⟨its, rv, ⟨o, n, ho, hc, _, hd⟩, _⟩ := I.list (hK ▸ hq)
  have b := shs_of I hK ds vs its ys rd rv ep h1 fun t ht => Nat.le_trans (listText_mem_le ht) h3
  have R := Sh.lst (vs := its.toArray) ho hc hd b
  obtain ⟨as, bs, r0, m, k⟩ := b
  have Rd := Reads.list ho hc hd r0
  have na := not_mem_of_deeper Rd (by simp only [PyData.depth]; omega) m
  cases its with
  | nil =>
    cases ds with
    | nil => exact absurd rfl hne
    | cons d ds =>
      obtain ⟨v, vs', rfl, _⟩ := rd
      cases rv
  | cons y l =>
    refine call_repr_slot (by omega) ⟨o, ho, hc⟩ _root_.PySem.F.slot_list_repr.toG ?_
    refine call_list_reprK ho hc hd na (by rw [k.length_eq]; simp) (fun i z ez => k.item i z (by simpa using ez)) hg (fun b _ => Clear.nil b) (by show X.A.units + 1 + (PyData.depthAll ys + 1) < cLine; omega) (fun _ _ e => e) (fun h' u tk hk => ?_) h3
    exact ⟨_, _, rfl, .str _, H, I.kept hk, ⟨_, rfl⟩, q⟩
@[irreducible] def dRepr2 : List D → Option D
  | [.lst l] => match l with
    | [] => none
    | d :: r => (pqs (d :: r)).bind fun xs => if PyData.showableAll xs && decide (PyData.depthAll xs ≤ 60) && decide ((listText (PyData.shownAll xs)).length ≤ SL) then some (.str (listText (PyData.shownAll xs))) else none
  | _ => none
theorem pds_nil : pd (.lst []) = some (.list []) := rfl
/-- repr of what holds no dict, as before; and of a list with dicts in it -/
theorem lift_repr2 {X : Cx} {M : Ms} (hK : M.K = X.K) (hg : X.A.guards = some []) (hu : X.A.units + 64 < cLine) : CallR X (.builtin "repr") (fun vs H Q => rRepr X.K vs H Q ∨ rRepr2 M vs H Q) := by
  intro pins s σ H xs us Q I r h
  rcases h with h | h
  · exact call_reprD hg hu pins s σ H xs us Q I r h
  · exact call_repr2 hK hg hu pins s σ H xs us Q I r h
@[irreducible] def dRepr3 (ds : List D) : Option D := match dRepr ds with
  | some d => some d
  | none => dRepr2 ds
theorem lift_repr3 {M : Ms} {K : PySem.W.Frag} (hK : M.K = K) : LiftC M (fun vs H Q => rRepr K vs H Q ∨ rRepr2 M vs H Q) dRepr3 := by
  intro B F env w σ H ds d vs Q c r e p
  unfold dRepr3 at e
  cases e1 : dRepr ds with
  | some d' =>
    rw [e1] at e
    cases e
    exact .inl (lift_repr hK B F env w σ H ds d vs Q c r e1 p)
  | none =>
    rw [e1] at e
    refine .inr ?_
    have e : dRepr2 ds = some d := e
    unfold dRepr2 at e
    split at e
    · rename_i l
      obtain ⟨v, rfl, r0⟩ := r.one
      obtain ⟨a, xs, rfl, hl, rd⟩ := c.lst r0
      split at e
      · cases e
      · rename_i d0 rest
        cases ep : pqs (d0 :: rest) with
        | none => rw [ep] at e; cases e
        | some ys =>
          rw [ep] at e
          dsimp only [Option.bind] at e
          split at e
          · rename_i hh
            cases e
            simp only [Bool.and_eq_true, decide_eq_true_eq] at hh
            exact ⟨a, F, d0 :: rest, xs, ys, rfl, .of hl, (fun z => by cases z), rd, ep, hh.1.1, hh.1.2, by rw [SL_eq]; exact hh.2, Post.val c p rfl⟩
          · cases e
    · cases e
end L3

set_option Elab.async false
set_option linter.all false
set_option maxRecDepth 100000
set_option maxHeartbeats 4000000
/-! L5Hot: defs called, and comprehensions over ranges run, while an exception is handled whose object is tracked. -/
namespace L3
open PySem PySem.Spec PyProof.Rows L2 PySem.L5 HotX
abbrev RoomH := L2H.RoomH

/-- x1's object is tracked as an exception's -/
def ExAt (H : Hp) (x1 : Addr) : Prop := ∃ cls od, H x1 = some (ExV cls od x1)
theorem hot_at {X : Cx} {pins : List (Addr × Obj)} {σ : Sl} {H : Hp} {s : Shared} {x1 : Addr} (I : Inv X pins σ H s) (hh : X.A.handled = some (.ref x1)) (e : ExAt H x1) : HotAt X.A x1 s.heap := by
  obtain ⟨cls, od, e⟩ := e
  obtain ⟨⟨oe, vs, ho, _, _, hd, hv⟩, _⟩ := I.hok x1 _ e
  exact ⟨hh, oe, vs, ho, hd, hv⟩
/-- the turns of a range, the handled exception tracked at the end -/
def ItrH (x1 : Addr) (n : Nat) : It := ⟨(Itr 0 n).go, (Itr 0 n).yld, fun i H => n ≤ i ∧ ExAt H x1⟩
def iRngH (x1 : Addr) (ta : TA) : TI := fun σ H R => ta σ H fun vs H1 => ∃ j : Int, vs = [.int j] ∧ -(2 ^ 62) ≤ j ∧ j < 2 ^ 62 ∧ R (ItrH x1 j.toNat) H1

section
variable {X : Cx}
/-- [elt for tg in range(a) if ..] -/
theorem pe_lcH {x1 : Addr} {elt tg a : Expr} {ifs : List Expr} {scope : Scope} {own : List (Str × Nat)} {p rp pos : Pos} {ta : TA} {g : TG} {tt : TT} {te : TE} (hh : X.A.handled = some (.ref x1)) (hR : Gl X "range") (hm : X.mg "range" = none) (hN : X.N.Nodup) (ok : BlkOk X.N X.env.scope scope own) (ha : PA X [a] ta)
    (hg : ∀ (s : Shared) (H : Hp) (C : Addr) (cl : List (Str × Addr)) (fp : List Addr), PG (X.blk s H scope (compEnvC scope cl C X.env) fp) tg g) (ht : ∀ (s : Shared) (H : Hp) (C : Addr) (cl : List (Str × Addr)) (fp : List Addr), PTs (X.blk s H scope (compEnvC scope cl C X.env) fp) ifs tt)
    (he : ∀ (s : Shared) (H : Hp) (C : Addr) (cl : List (Str × Addr)) (fp : List Addr), PE (X.blk s H scope (compEnvC scope cl C X.env) fp) elt te) (hs : ∀ x, foldedSetIterable (.Call (.Name "range" p) [a] [] rp) X.env x = pure x := by intro _; rfl) (hse : starEach [a] X.env = [(false, eval a X.env)] := by rfl) :
    PE X (.ListComp elt [⟨tg, .Call (.Name "range" p) [a] [] rp, ifs, 0⟩] scope pos) (tLc (iRngH x1 ta) g tt te (own.map (·.2))) := by
  refine ⟨fun pins s σ H Q I h => ?_⟩
  rw [eval_ListComp]
  have cl_ok : ∀ y ∈ scope.names, y.2 = .free → ∃ c, X.env.cells.lookup y.1 = some c := fun y hy e => (ok.free y hy e).elim (fun k => I.ok.has _ (.inl k)) fun k => I.ok.has _ (.inr k)
  refine wpAny_comprehension_free (use := none) rfl hs (closure_ok cl_ok) ok.kind (fun y hy e => by rw [ok.uniq y hy, e]) ?_
  refine Call_ (ld_blt I hR hm boot_range (PyProof.Rows.callWith_type1 (thn (ha.run rp pins s σ H _ I h) fun us s1 hv => ?_) hse rfl))
  obtain ⟨vs, H1, I1, r1, j, rfl, b1, b2, q⟩ := hv
  obtain ⟨u, rfl, t, rfl⟩ : ∃ u, us = [u] ∧ ∃ t, u = Value.int j t := by
    cases r1 with
    | cons r rr => cases rr; exact ⟨_, rfl, r⟩
  refine call_range_1 (wpAny_pyIter_range (IsRange.new ..) (small_one (by omega) (by omega) b1 b2) ?_)
  -- the iterator stands at the heap's end
  generalize hg2 : s1.heap.push _ = g2
  have old2 : ∀ b o, s1.heap.get? b = some o → g2.get? b = some o := fun b o e => by rw [← hg2]; exact Heap.get?_push_of_some _ e
  generalize hit : g2.objs.size = it
  generalize hg3 : g2.push _ = g3
  have old3 : ∀ b o, g2.get? b = some o → g3.get? b = some o := fun b o e => by rw [← hg3]; exact Heap.get?_push_of_some _ e
  have size3 : g3.objs.size = it + 1 := by rw [← hg3, Heap.size_push, hit]
  have turn0 : IsRangeIter g3 it (0 : Int) (j.toNat : Int) 1 := by
    have e2 : ((j.toNat : Nat) : Int) = Builtin.Range.rangeSize 0 j 1 := by rw [rangeSize_one]; split <;> omega
    rw [e2, ← hg3, ← hit]
    exact Heap.get?_push_size _ rfl
  have itN : H1 it = none := I1.hok.fresh (by
    have z : s1.heap.objs.size < g2.objs.size := by rw [← hg2, Heap.size_push]; exact Nat.lt_succ_self _
    omega)
  have fr1 : FpOk X pins H1 it := I1.fpOk (by
    have z : s1.heap.objs.size < g2.objs.size := by rw [← hg2, Heap.size_push]; exact Nat.lt_succ_self _
    omega) itN
  have I2 : Inv X pins σ H1 { s1 with heap := g3, toks := s1.toks + 1 + 1 } := I1.kept fun b o e => old3 b o (old2 b o e)
  refine wpAny_newObj_type (newEnv_comp ?_) (by show 0 ≤ sizeLine; decide)
  -- the new list
  obtain ⟨D, hD⟩ : ∃ D : Addr, g3.objs.size = D := ⟨_, rfl⟩
  have DN : H1 D = none := I2.hok.fresh (Nat.le_of_eq hD)
  obtain ⟨W, ⟨m0, w0⟩, turn⟩ := q D DN
  generalize hg4 : g3.push { cls := .type "list", data := .seq ([] : List Value).toArray } = g4
  have old4 : ∀ b o, g3.get? b = some o → g4.get? b = some o := fun b o e => by rw [← hg4]; exact Heap.get?_push_of_some _ e
  show codeAny (model X.prog X.w) X.A (.compStart (.ListComp elt [⟨tg, .Call (.Name "range" p) [a] [] rp, ifs, 0⟩] scope pos) 0 (.ref it) (.ref g3.objs.size) (compEnvC scope (cellsFrom (g4.objs.size + 1) scope.names (cloFrom X.env.cells scope.names [])) g4.objs.size X.env))
    (compPost (model X.prog X.w) X.A X.xe none (EP X pins σ Q) (.ref g3.objs.size) g4.objs.size) { s1 with heap := pushCells (g4.push { cls := .type "dict", data := .dict #[] }) scope.names, toks := s1.toks + 1 + 1 }
  rw [hD]
  generalize hHD : upd H1 D (.lst []) = H2 at w0
  have lt3 : it < g3.objs.size := by rw [size3]; exact Nat.lt_succ_self _
  have itD : it ≠ D := by rw [← hD]; exact Nat.ne_of_lt lt3
  have I3 : Inv X pins σ H2 { s1 with heap := g4, toks := s1.toks + 1 + 1 } := by
    rw [← hHD]
    refine I2.laid (t' := s1.toks + 1 + 1) old4 (Nat.le_of_eq hD) ⟨Nat.zero_le _, [], 0, .nil, ?_⟩
    rw [← hD, ← hg4]
    exact Heap.get?_push_size _ rfl
  have itN2 : H2 it = none := by rw [← hHD, upd_ne itD]; exact itN
  have fr3 : FpOk X pins H2 it := ⟨itN2, fr1.2⟩
  have lt4 : it < g4.objs.size := by rw [← hg4, Heap.size_push]; exact Nat.lt_succ_of_lt lt3
  -- the block
  have I4 := block_start (fp := [it]) I3 ok hN fun b hb => by
    obtain rfl : b = it := by simpa using hb
    exact ⟨fr3, lt4⟩
  have I4 : Inv (X.blk { s1 with heap := g4, toks := s1.toks + 1 + 1 } H2 scope (compEnvC scope (cellsFrom (g4.objs.size + 1) scope.names (cloFrom X.env.cells scope.names [])) g4.objs.size X.env) [it]) [] (wipe σ (own.map (·.2))) H2 { s1 with heap := pushCells (g4.push { cls := .type "dict", data := .dict #[] }) scope.names, toks := s1.toks + 1 + 1 } := I4
  have pg := hg { s1 with heap := g4, toks := s1.toks + 1 + 1 } H2 g4.objs.size (cellsFrom (g4.objs.size + 1) scope.names (cloFrom X.env.cells scope.names [])) [it]
  have pt := ht { s1 with heap := g4, toks := s1.toks + 1 + 1 } H2 g4.objs.size (cellsFrom (g4.objs.size + 1) scope.names (cloFrom X.env.cells scope.names [])) [it]
  have pe := he { s1 with heap := g4, toks := s1.toks + 1 + 1 } H2 g4.objs.size (cellsFrom (g4.objs.size + 1) scope.names (cloFrom X.env.cells scope.names [])) [it]
  generalize hce : compEnvC scope (cellsFrom (g4.objs.size + 1) scope.names (cloFrom X.env.cells scope.names [])) g4.objs.size X.env = ce at I4 pg pt pe ⊢
  have cL : ce.locals = g4.objs.size := by rw [← hce]; rfl
  generalize hS3 : ({ s1 with heap := g4, toks := s1.toks + 1 + 1 } : Shared) = s3 at I3 I4 pg pt pe
  generalize hS4 : ({ s1 with heap := pushCells (g4.push { cls := .type "dict", data := .dict #[] }) scope.names, toks := s1.toks + 1 + 1 } : Shared) = s4 at I4 ⊢
  have old5 : ∀ b o, g4.get? b = some o → s4.heap.get? b = some o := fun b o e => by rw [← hS4]; exact pushCells_keeps _ _ _ _ (Heap.get?_push_of_some _ e)
  have turn4 : IsRangeIter s4.heap it (((0 : Nat) : Int)) (((j.toNat : Nat) : Int) - ((0 : Nat) : Int)) 1 := by
    rw [show (((0 : Nat) : Int)) = 0 from rfl, Int.sub_zero]
    exact old5 _ _ (old4 _ _ turn0)
  generalize hX : X.blk s3 H2 scope ce [it] = Y at I4 pg pt pe
  have yp : Y.prog = X.prog := by rw [← hX]
  have stat : ∀ {σ' : Sl} {H' : Hp} {s' : Shared}, Inv Y [] σ' H' s' → H' it = none → FpOk Y [] H' it := by
    intro σ' H' s' J hn
    subst hX
    exact ⟨hn, (J.ok.exf it (by simp)).1, J.ok.exfs it (by simp), .inl (by simp), fun x c e => (J.ok.exf it (by simp)).2 x c e, fun p hp => absurd (show p ∈ ([] : List (Addr × Obj)) ++ [] from hp) (by simp)⟩
  have loop : codeAny (model X.prog X.w) X.A (.compLoop (.ListComp elt [⟨tg, .Call (.Name "range" p) [a] [] rp, ifs, 0⟩] scope pos) 0 (.ref it) (.ref D) ce) (compPost (model X.prog X.w) X.A X.xe none (EP X pins σ Q) (.ref D) g4.objs.size) s4 := by
    refine compLoop_any (fun n s' => ∃ (i : Nat) (H' : Hp), Inv Y [] (wipe σ (own.map (·.2))) H' s' ∧ IsRangeIter s'.heap it (i : Int) (((j.toNat : Nat) : Int) - (i : Int)) 1 ∧ H' it = none ∧ W i n H') ?_ m0 ⟨0, H2, I4, turn4, itN2, w0⟩
    rintro n s5 ⟨i, H5, I5, st5, n5, w5⟩
    have fp5 := stat I5 n5
    rcases turn i n H5 w5 with ⟨⟨stop, ex⟩, done⟩ | ⟨go, Nx, hNx, step⟩
    · have hot : HotAt X.A x1 s5.heap := by
        subst hX
        exact hot_at (X := X.blk s3 H2 scope ce [it]) I5 hh ex
      refine pyNext_range_end_hot hot st5 (by omega) fun h' keep => ?_
      have I6 : Inv Y [] (wipe σ (own.map (·.2))) H5 { s5 with heap := h', toks := s5.toks } := I5.kept keep
      have I7 : Inv X pins σ H5 { s5 with heap := h', toks := s5.toks } := by
        subst hX
        exact I3.call' (ch := [it]) I6.os I6.base I6.hok I6.bare fun b hb => by
          obtain rfl : b = it := by simpa using hb
          exact ⟨fr3.2.2.2.1, fr3.2.1, fr3.2.2.2.2.1, fr3.2.2.2.2.2⟩
      have nC : H5 g4.objs.size = none := by
        subst hX
        have z : H5 ce.locals = none := I6.free
        rw [cL] at z
        exact z
      have ns : ∃ m, h'.Ns g4.objs.size m := by
        subst hX
        obtain ⟨m, hn, _⟩ := I6.loc
        have hn : h'.Ns ce.locals m := hn
        rw [cL] at hn
        exact ⟨m, hn⟩
      obtain ⟨m, hn⟩ := ns
      refine ⟨m, hn, fun h2 sb => ?_⟩
      have fC : FpOk X pins H5 g4.objs.size := I3.fpOk (by rw [← hS3]; exact Nat.le_refl _) nC
      obtain ⟨f0, f1, _, f3, f4, f5⟩ := fC
      exact ⟨.ref D, H5, I7.turned (t' := s5.toks) (fun b o hb e => (sb.2 b hb).trans e) f0 f1 f3 f4 f5, rfl, done⟩
    · subst hX
      have go : i < j.toNat := go
      refine wpAny_pyNext_range_item st5 (by omega) fun h' st6 sb => ?_
      have I6 : Inv (X.blk s3 H2 scope ce [it]) [] (wipe σ (own.map (·.2))) H5 { s5 with heap := h', toks := s5.toks + 1 } := I5.turned (fun b o hb e => (sb.2 b hb).trans e) n5 fp5.2.1 fp5.2.2.2.1 fp5.2.2.2.2.1 fp5.2.2.2.2.2
      have st7 : IsRangeIter h' it (((i + 1 : Nat) : Int)) (((j.toNat : Nat) : Int) - ((i + 1 : Nat) : Int)) 1 := by
        have e1 : (i : Int) + 1 = ((i + 1 : Nat) : Int) := by omega
        have e2 : ((j.toNat : Nat) : Int) - (i : Int) - 1 = ((j.toNat : Nat) : Int) - ((i + 1 : Nat) : Int) := by omega
        have z := st6
        rw [e1, e2] at z
        exact z
      refine go_of (s := { s5 with heap := h', toks := s5.toks + 1 }) (n := "range_iterator") st7 rfl rfl (by decide) ?_
      have notCell : ∀ b ∈ [it], ∃ o, h'.get? b = some o ∧ ∀ v, o.data ≠ .cell v := fun b hb => by
        obtain rfl : b = it := by simpa using hb
        exact ⟨_, st7, fun v z => by
          have z : Data.fields _ = Data.cell v := z
          cases z⟩
      have I6' := I6.pinned (fp := [it]) (fun b hb => by
        obtain rfl : b = it := by simpa using hb
        exact stat I6 n5) notCell
      refine thnF (pg.run _ _ _ H5 (.int i) _ _ I6' ⟨_, rfl⟩ (step (.int i) H5 ⟨rfl, by rw [Int.zero_add]⟩)) fun _ s8 ⟨σ8, H8, I8, hw8, q8⟩ => ?_
      have fin : ∀ {s' : Shared} {H' : Hp}, Inv (X.blk s3 H2 scope ce [it]) ([] ++ pinsAt [it] h') σ8 H' s' → Nx H' → ∃ m, m < n ∧ ∃ (i : Nat) (H' : Hp), Inv (X.blk s3 H2 scope ce [it]) [] (wipe σ (own.map (·.2))) H' s' ∧ IsRangeIter s'.heap it (i : Int) (((j.toNat : Nat) : Int) - (i : Int)) 1 ∧ H' it = none ∧ W i m H' := by
        intro s' H' J nx
        obtain ⟨m', hm', w'⟩ := hNx H' nx
        obtain ⟨e1, e2, _⟩ := J.pin (it, _) (List.mem_append_right _ (List.mem_append_right _ (mem_pinsAt (List.mem_singleton.mpr rfl) st7)))
        have hl : (wipe σ (own.map (·.2))).length = σ8.length := by rw [← hw8, wipe_length]
        refine ⟨m', hm', i + 1, H', (J.unpinned (pins := [])).weak hl (fun k v e => ?_), e1, e2, w'⟩
        rw [← hw8] at e
        exact (wipe_some e).1
      refine thnF (pt.run _ s8 σ8 H8 _ I8 q8) fun b s9 ⟨H9, I9, q9⟩ => ?_
      cases b with
      | false =>
        simp only [Bool.false_eq_true, if_false] at q9 ⊢
        exact fin I9 q9
      | true =>
        simp only [if_true] at q9 ⊢
        refine thnF (pe.run _ s9 σ8 H9 _ I9 q9) fun z s10 ⟨yv, H10, I10, r10, acc, hD10, hz10, nx⟩ => ?_
        exact app_ok (X := X.blk s3 H2 scope ce [it]) I10 hD10 hz10 r10 fun s11 I11 => fin I11 nx
  exact codeAny_compStart_list loop (wpAny_pyIter_rangeiter turn4 loop)
end
end L3

set_option Elab.async false
set_option linter.all false
set_option maxRecDepth 100000
set_option maxHeartbeats 4000000
/-! L5Hot2: defs as plain functions, called while an exception is handled. -/
namespace L3
open PySem PySem.Spec PyProof.Rows L2 PySem.L5 HotX

section
variable (P : Program) (w : World) (K : PySem.W.Frag) (mg : Str → Option Value) (base : Heap)
/-- a def keeps its promise while x1 is handled -/
def PosH (k : Nat) (f : Addr) (sp : Addr → Sp) : Prop :=
  ∀ (A : Around) (outer : List Env) (s : Shared) (H : Hp) (us : List Value) (vs : List V) (Q : VK) (x1 : Addr), RoomH k A → A.guards = some [] → A.handled = some (.ref x1) → Env0 P w K mg base A outer s H → Vals vs us → sp x1 vs H Q E0 →
    codeAny (model P w) A (.call (.ref f) ⟨us, []⟩) (CR CX0 outer P w H s Q E0) s
/-- the context of its body -/
def cxC (N : List Str) (qual : Str) (scope : Scope) (f : Addr) (cd : Value) (A : Around) (outer : List Env) (s : Shared) (H : Hp) (E : XK) : Cx := { cxOf CX0 P w K mg base N qual scope f cd A outer s H E with calm := false }
end
section
variable {P : Program} {w : World} {K : PySem.W.Frag} {mg : Str → Option Value} {base : Heap} {M : Ms}
theorem PosH.mono {j k : Nat} {f : Addr} {sp : Addr → Sp} (h : PosH P w K mg base j f sp) (hjk : j ≤ k) : PosH P w K mg base k f sp := fun A outer s H us vs Q x1 hr => h A outer s H us vs Q x1 (hr.mono hjk)
theorem inv_startC {N ps : List Str} {qual : Str} {scope : Scope} {f : Addr} {cd : Value} {A : Around} {outer : List Env} {s s1 : Shared} {H : Hp} {E : XK} {us : List Value} {vs : List V} {p : Addr × Obj} (S : FnScope N ps scope) (pin : L2H.PinOk outer H s p) (e0 : Env0 P w K mg base A outer s H) (hl : vs.length = ps.length) (r : Vals vs us)
    (x : InCallC s s.heap.objs.size (bindL (envOfC qual scope s.heap.objs.size f cd).kindOf (ps.zip us) fun _ => none) (cellsFrom (s.heap.objs.size + 1) scope.names []) (bindC (envOfC qual scope s.heap.objs.size f cd).kindOf (ps.zip us) fun _ => none) s1) :
    Inv (cxC P w K mg base N qual scope f cd A outer s H E).nox [] (start N vs) H s1 := by
  have J := L2H.inv_startH (CX := CX0) (E := E) (qual := qual) (f := f) (cd := cd) S pin e0 hl r x
  have o := J.ok
  exact ⟨⟨o.mod, o.kind, o.glob, o.blt, o.above, o.inj, o.has, o.cab, o.hd, o.frames, o.stk, o.exf, o.bs, o.bsz, o.noex, o.exfs, o.funs, o.frf⟩, J.os, J.bare, J.base, J.loc, J.cell, J.free, J.freeC, (fun q hq => absurd (show q ∈ ([] : List (Addr × Obj)) ++ [] from hq) (by simp)), J.hok, J.len⟩
/-- THE RULE for a def, an exception handled -/
theorem fn3H {k : Nat} {x qual : Str} {st : Stmt} {f : Addr} {fd : FuncData} {N ps : List Str} {g : Addr → St3} (Fn : Fun K x qual st f fd) (S : FnScope N ps (defScope st)) (hb : Binds K fd ps [])
    (hbody : ∀ (cdv : Value) (A : Around) (outer : List Env) (s : Shared) (H : Hp) (x1 : Addr), RoomH k (A.deeper (envOfC qual (defScope st) s.heap.objs.size f cdv)) → A.guards = some [] → A.handled = some (.ref x1) →
      PSs (cxC P w K mg base N qual (defScope st) f cdv A outer s H E0).nox (defBody st) (TS3 M (g x1))) : PosH P w K mg base (k + 1) f fun x1 => Sp3 M ps.length (defM N.length (g x1)) := by
  obtain ⟨oc, od, kV, doc, pm, an, cdv, ct, osl, efd, look, code⟩ := Fn.ex
  subst efd
  intro A outer s H us vs Q x1 room gd hh e0 rel prom
  have hN : ps.length ≤ N.length := by have := congrArg List.length S.pre; rw [List.length_take] at this; omega
  have lenV : vs.length = ps.length := sp3_len prom
  have inK : K.In s.heap := e0.mod.kin.keeps fun b o e => (e0.bs b o e).1
  have unl : s.heap.NoLimit := e0.mod.nolimit.keeps fun b o e => (e0.bs b o e).1
  have bind := hb s us inK (by rw [List.append_nil, ← rel.length]; exact lenV)
  rw [List.append_nil] at bind
  have fb := e0.mod.kin _ _ look
  have notCell : ∀ v, (Data.func (PySem.W.fnOf x qual (defArgs st) (defBody st) (defScope st) .none kV doc pm an cdv ct)) ≠ Data.cell v := fun v z => nomatch z
  have notFrame : f ∉ frs outer := fun hm => by
    have z := (e0.funs.mem hm).1
    rw [fb] at z
    cases z
  have pin : L2H.PinOk outer H s (f, _) := ⟨inK _ _ look, (e0.bs _ _ fb).2, notFrame, notCell⟩
  have kinds : ∀ y ∈ ps.zip us, (defScope st).names.lookup y.1 = some .local ∨ ((defScope st).names.lookup y.1 = some .cell ∧ ((cellsFrom (s.heap.objs.size + 1) (defScope st).names []).lookup y.1).isSome = true) := by
    intro y hy
    obtain ⟨n, v⟩ := y
    exact (S.par n (List.of_mem_zip hy).1).imp id fun q => ⟨q, PySem.W.cellsFrom_some _ _ _ (.inl q)⟩
  refine codeAny_call_function room.depth (inK _ _ look) rfl S.co S.gen rfl (PySem.W.codeRec_of inK code) (bind _ _ _ _ (wpAny_newFunctionEnv_cells S.kind kinds fun env eenv s1 x => ?_))
  subst eenv
  refine ⟨unl.keeps x.toInCall.keep, codeAny_func ?_⟩
  have ht := hbody cdv A outer s H x1 (room.deeper _) gd hh
  have I : Inv (cxC P w K mg base N qual (defScope st) f cdv A outer s H E0).nox [] (start N vs) H s1 := inv_startC S pin e0 lenV rel x
  refine wpAny_mono (ht.run [] s1 (start N vs) H _ I (ts_start hN prom)) (fun fl s' hs => ?_) fun e s' hs => hs.elim
  cases fl with
  | ret u =>
    obtain ⟨v, σ', H', J, rv, q⟩ := hs
    exact ⟨v, H', J.os, J.bare, J.base, J.hok, rv, q⟩
  | next =>
    obtain ⟨σ', H', J, q⟩ := hs
    exact ⟨V.non, H', J.os, J.bare, J.base, J.hok, rfl, q⟩
  | brk => exact hs.choose_spec.choose_spec.2.elim
  | cont => exact hs.choose_spec.choose_spec.2.elim
end

section
variable {X : Cx} {M : Ms} {x : Str} {p pos : Pos} {e : Expr} {es : List Expr} {fs : M3 (List D)} {f x1 : Addr} {k n : Nat} {m : Addr → Fun3}
/-- such a def called -/
theorem e3_callH (G : PosH X.prog X.w X.K X.mg X.base k f fun x1 => Sp3 M n (m x1)) (hr : RoomH k X.A) (hgd : X.A.guards = some []) (hh : X.A.handled = some (.ref x1)) (hg : Gl X x) (hm : X.mg x = some (.ref f)) (hk : PySem.W.keepIn X.K (.ref f) = true) (ha : PA X (e :: es) (T3a M fs))
    (hdb : (x == ("__debug__" : Str)) = false := by decide) (he : starEach (e :: es) X.env = (false, eval e X.env) :: starEach es X.env := by rfl) (hpl : (backTo pos (starEach es X.env)).any (·.1) = false := by rfl) :
    PE X (.Call (.Name x p) (e :: es) [] pos) (T3 M (callM (m x1) n fs)) := by
  refine ⟨fun pins s σ H Q I h => wpAny_Call_Name_kw (ld_glob I hg hm ?_ hdb)⟩
  obtain ⟨B, F, env, wd, c, po⟩ := h
  have h2 : T3a M fs σ H fun vs H1 => Sp3 M n (m x1) vs H1 Q E0 := T3a.mono (T3a.bind' (P := fun r F H => Post M F H r Q) c po (fun _ _ h => h) fun _ _ _ _ _ _ g p => p.grow g) fun vs H1 ⟨F1, w1, ds, g1, c1, r1, p1⟩ => sp_of c1 r1 p1
  refine PySem.W.callWith_K (h₀ := X.base) I.ok.mod.kin hk (thn (ha.run pos pins s σ H _ I h2) fun us s1 hv => ?_) he hpl
  obtain ⟨vs, H1, I1, r1, q1⟩ := hv
  exact ⟨I1.kIn, run_g (args := ⟨us, []⟩) I1 (G X.A X.stack s1 H1 us vs Q x1 hr hgd hh I1.env0 r1 q1)⟩

/-! ### a comprehension over a range, slot i the handled exception -/
/-- is the handled exception at slot i? -/
def holdsH (i : Nat) (x1 : Addr) (env : Env3) : Bool := match env[i]? with
  | some (some (false, .exc _ (some b) _)) => decide (b = x1)
  | _ => false
def irngH (i : Nat) (x1 : Addr) (fs : M3 (List D)) : M3 (List D) := fun env w => if holdsH i x1 env then irng1 fs env w else .bad
theorem holdsH_at {B : Bs} {F : FS} {env : Env3} {w : Wd} {σ : Sl} {H : Hp} {i : Nat} (c : Cor M B F env w σ H) (h : holdsH i x1 env = true) : F x1 ∧ ExAt H x1 := by
  unfold holdsH at h
  split at h
  · rename_i k b ds e
    rw [decide_eq_true_eq] at h
    subst h
    obtain ⟨v, _, a, od, xs, _, ha, fa, hx, _⟩ := c.fro i _ e
    obtain rfl := ha b rfl
    exact ⟨fa, _, _, hx⟩
  · cases h
theorem t3i_H {i : Nat} : ∀ σ H R, T3i M (irngH i x1 fs) σ H R → iRngH x1 (T3a M fs) σ H R := by
  intro σ H R ⟨B, F, env, w, c, p⟩
  unfold irngH at p
  cases hd : holdsH i x1 env with
  | false => rw [hd] at p; exact p.elim
  | true =>
    rw [hd] at p
    simp only [if_true] at p
    obtain ⟨fx, cls, od, hx⟩ := holdsH_at c hd
    refine ⟨B, F, env, w, c, ?_⟩
    cases ei : irng1 fs env w with
    | bad => rw [ei] at p; exact p.elim
    | ok ds' w' =>
      rw [ei] at p
      unfold irng1 M3.bind at ei
      cases ef : fs env w with
      | bad => rw [ef] at ei; cases ei
      | ok ds w1 =>
        rw [ef] at ei
        dsimp only at ei
        split at ei
        · rename_i j
          split at ei
          · rename_i hj
            cases ei
            intro F1 H1 vs g1 r1
            have hx1 := g1.ext _ _ (.inl fx) hx
            obtain ⟨v, us, rfl, rv, rn⟩ := r1
            have rn : us = [] := rn
            have rv : v = .int j := rv
            subst rn rv
            refine ⟨j, rfl, hj.1, hj.2, p F1 H1 _ g1 fun n F2 H2 w2 m hdm hw => ?_⟩
            have hx2 := m.ext _ _ (.inl (g1.sub _ fx)) hx1
            refine ⟨fun hl => ⟨by simpa using hl, cls, od, hx2⟩, fun d hd2 => ?_⟩
            obtain ⟨hn, rfl⟩ : n < j.toNat ∧ d = .int n := by
              rw [List.getElem?_map] at hd2
              cases q : (List.range j.toNat)[n]? with
              | none => rw [q] at hd2; cases hd2
              | some y =>
                rw [q] at hd2
                obtain ⟨q1, q2⟩ := List.getElem?_eq_some_iff.mp q
                have hn : n < j.toNat := by simpa using q1
                have hy : n = y := by simpa using q2
                subst hy
                exact ⟨hn, by cases hd2; rfl⟩
            refine ⟨hn, fun y H' ⟨e1, e2⟩ => ?_⟩
            subst e1 e2
            exact ⟨F2, .refl hdm hw, by show V.int (0 + (n : Int)) = V.int n; rw [Int.zero_add]⟩
          · cases ei
        · cases ei
theorem e3_lcH {i : Nat} {elt tg a : Expr} {ifs : List Expr} {scope : Scope} {own : List (Str × Nat)} {rp : Pos} {g : G3} {t : M3 Bool} {fe : M3 D} (hh : X.A.handled = some (.ref x1)) (hR : Gl X "range") (hm : X.mg "range" = none) (hN : X.N.Nodup) (ok : BlkOk X.N X.env.scope scope own) (ha : PA X [a] (T3a M fs))
    (hg : ∀ (s : Shared) (H : Hp) (C : Addr) (cl : List (Str × Addr)) (fp : List Addr), PG (X.blk s H scope (compEnvC scope cl C X.env) fp) tg (T3g M g (own.map (·.2)))) (ht : ∀ (s : Shared) (H : Hp) (C : Addr) (cl : List (Str × Addr)) (fp : List Addr), PTs (X.blk s H scope (compEnvC scope cl C X.env) fp) ifs (T3t M t))
    (he : ∀ (s : Shared) (H : Hp) (C : Addr) (cl : List (Str × Addr)) (fp : List Addr), PE (X.blk s H scope (compEnvC scope cl C X.env) fp) elt (T3 M fe)) (hs : ∀ x, foldedSetIterable (.Call (.Name "range" p) [a] [] rp) X.env x = pure x := by intro _; rfl) (hse : starEach [a] X.env = [(false, eval a X.env)] := by rfl) :
    PE X (.ListComp elt [⟨tg, .Call (.Name "range" p) [a] [] rp, ifs, 0⟩] scope pos) (T3n M (mlc (irngH i x1 fs) g t fe (own.map (·.2)))) :=
  PEi (pe_lcH hh hR hm hN ok ha hg ht he hs hse) fun σ H Q h => t3i_H _ _ _ (tlc_of σ H Q h)
end
end L3

set_option Elab.async false
set_option linter.all false
set_option maxRecDepth 100000
set_option maxHeartbeats 4000000
/-! L5Gen: what gen.py's lines about exceptions lean on. -/
namespace L3
open PySem PySem.Spec PyProof.Rows L2 PySem.L5 HotX
theorem room1 {k : Nat} {A : Around} (r : Room k A) : A.depth + 1 < recursionLimit := by have := r.dp; omega
theorem room1H {k : Nat} {A : Around} (r : RoomH k A) : A.depth + 1 < recursionLimit := by have := r.dp; omega
theorem huH {k : Nat} {A : Around} (r : RoomH k A) : A.units + 1 < cLine := by have := r.un; omega
theorem hu2H {k : Nat} {A : Around} (r : RoomH k A) : A.units + 64 < cLine := by have := r.un; omega
theorem roomH_mark {k : Nat} {A : Around} {v : Option Value} (r : RoomH k A) : RoomH k (A.mark v) := ⟨r.dp, r.un⟩
theorem roomH_of {k : Nat} {A : Around} (r : Room k A) : RoomH k A := L2H.roomH_of r
theorem RoomH.mono {j k : Nat} {A : Around} (r : RoomH k A) (h : j ≤ k) : RoomH j A := L2H.RoomH.mono r h
/-- n the root's number: is an exception of the class i one of the class j? -/
def isT (n i j : Nat) : Option Bool := if i ≤ n && j ≤ n then some (i == j || j == n) else none
def isE (n i : Nat) : Option Bool := if i ≤ n then some true else none
theorem isT_le {n i j : Nat} {b : Bool} (h : isT n i j = some b) : i ≤ n ∧ j ≤ n := by
  unfold isT at h
  split at h
  · rename_i z
    simpa using z
  · cases h
theorem isE_le {n i : Nat} {b : Bool} (h : isE n i = some b) : i ≤ n := by
  unfold isE at h
  split at h
  · assumption
  · cases h
theorem boot_Exception : bootBuiltins "Exception" = some (.type "Exception") := by first | rfl | kernel_rfl
theorem e3_lcVH {X : Cx} {M : Ms} {x1 : Addr} {fs : M3 (List D)} {i : Nat} {elt tg a : Expr} {ifs : List Expr} {scope : Scope} {own : List (Str × Nat)} {p rp pos : Pos} {g : G3} {t : M3 Bool} {fe : M3 D} (hh : X.A.handled = some (.ref x1)) (hR : Gl X "range") (hm : X.mg "range" = none) (hN : X.N.Nodup) (ok : BlkOk X.N X.env.scope scope own) (ha : PA X [a] (T3a M fs))
    (hg : ∀ (s : Shared) (H : Hp) (C : Addr) (cl : List (Str × Addr)) (fp : List Addr), PG (X.blk s H scope (compEnvC scope cl C X.env) fp) tg (T3g M g (own.map (·.2)))) (ht : ∀ (s : Shared) (H : Hp) (C : Addr) (cl : List (Str × Addr)) (fp : List Addr), PTs (X.blk s H scope (compEnvC scope cl C X.env) fp) ifs (T3t M t))
    (he : ∀ (s : Shared) (H : Hp) (C : Addr) (cl : List (Str × Addr)) (fp : List Addr), PE (X.blk s H scope (compEnvC scope cl C X.env) fp) elt (T3 M fe)) (hs : ∀ x, foldedSetIterable (.Call (.Name "range" p) [a] [] rp) X.env x = pure x := by intro _; rfl) (hse : starEach [a] X.env = [(false, eval a X.env)] := by rfl) :
    PE X (.ListComp elt [⟨tg, .Call (.Name "range" p) [a] [] rp, ifs, 0⟩] scope pos) (T3 M (mlc (irngH i x1 fs) g t fe (own.map (·.2)))) :=
  n3 (e3_lcH hh hR hm hN ok ha hg ht he hs hse) fun env w c ds w' h => by obtain ⟨z, e⟩ := mlc_lst h; cases e
/-- the makers of the class facts -/
theorem init1_of {P : Program} {K : PySem.W.Frag} {mg : Str → Option Value} {C fI cc cda : Addr} {qual attr : Str} {dV kV doc pm ct : Value} {an : Option Addr} {msg : String} {p : SPos} {b1 b2 q1 q2 q3 q4 : Pos} (hmc : SupOk msg p)
    (T : BadC P K mg C fI cc cda (PySem.W.ksFn "__init__" qual (aA [("self", b1), (attr, b2)]) [supS msg p, setS attr q1 q2 q3 q4] (sc1 attr) dV kV doc pm an (.ref cda) ct cc))
    (hat : attr ≠ "self" ∧ attr ≠ "super" ∧ attr ≠ "__class__" ∧ attr ≠ "__debug__") (hsa : PySem.W.findIn K (.ref C) "__setattr__" = some (some (.builtin "object.__setattr__"))) (hna : PySem.W.findIn K (.ref C) attr = some none)
    (h1 : ∀ (s : Shared) (x v : Value), BindsTo s (PySem.W.ksFn "__init__" qual (aA [("self", b1), (attr, b2)]) [supS msg p, setS attr q1 q2 q3 q4] (sc1 attr) dV kV doc pm an (.ref cda) ct cc) ⟨[x, v], []⟩ [("self", x), (attr, v)])
    (h2 : ∀ (s : Shared) (x v : Value), BindsTo s (PySem.W.ksFn "__init__" qual (aA [("self", b1), (attr, b2)]) [supS msg p, setS attr q1 q2 q3 q4] (sc1 attr) dV kV doc pm an (.ref cda) ct cc) ⟨[x], [(attr, v)]⟩ [("self", x), (attr, v)]) : Init1 P K mg C fI attr := by
  intro w A R s x t0 v args ha X G Bn hl hx hnx hroom hq
  rcases ha with rfl | rfl
  · exact init1 hmc T hat hsa hna X G Bn hl hx hnx hroom (h1 s _ v) hq
  · exact init1 hmc T hat hsa hna X G Bn hl hx hnx hroom (h2 s _ v) hq
theorem init0_of {P : Program} {K : PySem.W.Frag} {mg : Str → Option Value} {C fI cc cda : Addr} {qual : Str} {dV kV doc pm ct : Value} {an : Option Addr} {msg : String} {p : SPos} {b1 : Pos} (hmc : SupOk msg p)
    (T : BadC P K mg C fI cc cda (PySem.W.ksFn "__init__" qual (aA [("self", b1)]) [supS msg p] sc0 dV kV doc pm an (.ref cda) ct cc))
    (h1 : ∀ (s : Shared) (x : Value), BindsTo s (PySem.W.ksFn "__init__" qual (aA [("self", b1)]) [supS msg p] sc0 dV kV doc pm an (.ref cda) ct cc) ⟨[x], []⟩ [("self", x)]) : Init0 P K mg C fI :=
  fun w A R s x t0 X G Bn hl hx hroom hq => init0 hmc T X G Bn hl hx hroom (h1 s _) hq
end L3

set_option Elab.async false
set_option linter.all false
set_option maxRecDepth 100000
set_option maxHeartbeats 4000000
/-! K01G: printed by gen.py from the row's text: each def as a plain function, and that it computes it. -/
namespace K01
open PySem PySem.Spec PyProof.Rows L2 L3
def top (i : Nat) : Stmt := PySem.Challenge.pw_onegoing_k01_errors.main.body.getD i (.Pass ⟨0, 0, 0, 0⟩)
structure Txt (P : Program) (K : PySem.W.Frag) (mg : Str → Option Value) (fa : Nat → Addr) (cl : Nat → Addr) (nm : Nat → List Str) (fi : Nat → Addr) : Prop where
  b_Exception : mg "Exception" = none
  b_int : mg "int" = none
  b_isinstance : mg "isinstance" = none
  b_len : mg "len" = none
  b_list : mg "list" = none
  b_range : mg "range" = none
  b_repr : mg "repr" = none
  c_l_caught : mg "_law_caught" = some (.ref (fa 6))
  k_l_caught : PySem.W.keepIn K (.ref (fa 6)) = true
  c_l_draw : mg "_law_draw" = some (.ref (fa 1))
  k_l_draw : PySem.W.keepIn K (.ref (fa 1)) = true
  c_l_kept : mg "_law_kept" = some (.ref (fa 4))
  k_l_kept : PySem.W.keepIn K (.ref (fa 4)) = true
  c_l_kinds : mg "_law_kinds" = some (.ref (fa 5))
  k_l_kinds : PySem.W.keepIn K (.ref (fa 5)) = true
  c_l_made : mg "_law_made" = some (.ref (fa 3))
  k_l_made : PySem.W.keepIn K (.ref (fa 3)) = true
  c_l_pick : mg "_law_pick" = some (.ref (fa 2))
  k_l_pick : PySem.W.keepIn K (.ref (fa 2)) = true
  c_l_deck : mg "_law_deck" = some (.ref (fa 0))
  k_l_deck : PySem.W.keepIn K (.ref (fa 0)) = true
  x_BadTransducer : mg "BadTransducer" = some (.ref (cl 0))
  kb_BadTransducer : BadK K (cl 0) (fi 0)
  in_BadTransducer : Init1 P K mg (cl 0) (fi 0) "part"
  n_BadTransducer : nm 0 = [("part" : Str)]
  ng_BadTransducer : PySem.W.findIn K (.ref (cl 0)) "part" = some none
  ea_BadTransducer : ExcA K (cl 0)
  x_BadText : mg "BadText" = some (.ref (cl 1))
  kb_BadText : BadK K (cl 1) (fi 1)
  in_BadText : Init1 P K mg (cl 1) (fi 1) "line"
  n_BadText : nm 1 = [("line" : Str)]
  ng_BadText : PySem.W.findIn K (.ref (cl 1)) "line" = some none
  ea_BadText : ExcA K (cl 1)
  x_NotFunctional : mg "NotFunctional" = some (.ref (cl 2))
  kb_NotFunctional : BadK K (cl 2) (fi 2)
  in_NotFunctional : Init1 P K mg (cl 2) (fi 2) "conflict"
  n_NotFunctional : nm 2 = [("conflict" : Str)]
  ng_NotFunctional : PySem.W.findIn K (.ref (cl 2)) "conflict" = some none
  ea_NotFunctional : ExcA K (cl 2)
  x_Diverges : mg "Diverges" = some (.ref (cl 3))
  kb_Diverges : BadK K (cl 3) (fi 3)
  in_Diverges : Init1 P K mg (cl 3) (fi 3) "divergence"
  n_Diverges : nm 3 = [("divergence" : Str)]
  ng_Diverges : PySem.W.findIn K (.ref (cl 3)) "divergence" = some none
  ea_Diverges : ExcA K (cl 3)
  x_BadLetter : mg "BadLetter" = some (.ref (cl 4))
  kb_BadLetter : BadK K (cl 4) (fi 4)
  in_BadLetter : Init1 P K mg (cl 4) (fi 4) "letter"
  n_BadLetter : nm 4 = [("letter" : Str)]
  ng_BadLetter : PySem.W.findIn K (.ref (cl 4)) "letter" = some none
  ea_BadLetter : ExcA K (cl 4)
  x_NoOutput : mg "NoOutput" = some (.ref (cl 5))
  kb_NoOutput : BadK K (cl 5) (fi 5)
  in_NoOutput : Init1 P K mg (cl 5) (fi 5) "text"
  n_NoOutput : nm 5 = [("text" : Str)]
  ng_NoOutput : PySem.W.findIn K (.ref (cl 5)) "text" = some none
  ea_NoOutput : ExcA K (cl 5)
  x_NothingToUndo : mg "NothingToUndo" = some (.ref (cl 6))
  kb_NothingToUndo : BadK K (cl 6) (fi 6)
  in_NothingToUndo : Init0 P K mg (cl 6) (fi 6)
  x_InvalidCommand : mg "InvalidCommand" = some (.ref (cl 7))
  kb_InvalidCommand : BadK K (cl 7) (fi 7)
  in_InvalidCommand : Init0 P K mg (cl 7) (fi 7)
  x_NoTransducer : mg "NoTransducer" = some (.ref (cl 8))
  kb_NoTransducer : BadK K (cl 8) (fi 8)
  in_NoTransducer : Init0 P K mg (cl 8) (fi 8)
  x_PassError : mg "PassError" = some (.ref (cl 9))
  px : PySem.W.excIn K (cl 9) L3.exTail "Exception.__new__" = true
  pk : PySem.W.keepIn K (.ref (cl 9)) = true
  pr : ∀ {X : Cx}, X.K = K → Raises X (.ref (cl 9))
  kt : ∀ c j b, isT 9 c j = some b → PySem.W.kitOne K (.ref (cl c)) (.ref (cl j)) = some b ∧ ExcA K (cl c)
  ke : ∀ c b, isE 9 c = some b → PySem.W.kitOne K (.ref (cl c)) (.type "Exception") = some b ∧ ExcA K (cl c)
  xm : ∀ c, c < 9 → PySem.W.exmOne K (.ref (cl c)) (.ref (cl 9)) = some true
abbrev own0 : List (Str × Nat) := [("_law_n", 2)]
section
variable {P : Program} {w : World} {K : PySem.W.Frag} {mg : Str → Option Value} {base : Heap} {dk : Option (Addr × Addr)} {cl : Nat → Addr} {nm : Nat → List Str} {fa : Nat → Addr} {fi : Nat → Addr}
abbrev s_l_deck : Stmt := top 12
abbrev N_l_deck : List Str := ["_law_script", "_law_cells", "_law_blend", "_law_cell"]
theorem sc_l_deck : FnScope N_l_deck ["_law_script"] (defScope s_l_deck) := ⟨rfl, rfl, rfl, by decide +kernel, rfl, by decide +kernel, by decide +kernel⟩
def g_l_deck : St3 := (sfor (iseq (evar 1)) (gn 3) (sasg (m2 dMod (mC dInt (acons (m2 dAdd (m2 dAdd (m2 dMul (evarB 2) (cst (.int 48271))) (m2 dMod (mC dInt (acons (evarB 3) anil)) (cst (.int 2147483629)))) (cst (.int 58))) anil)) (cst (.int 2147483587))) (gn 2)))
def f_l_deck : M3 D := (mdisp [(Str.ofString "cells", (mrevL (evarB 1))), (Str.ofString "blend", (evar 2)), (Str.ofString "draws", (cst (.int 0)))])
theorem body_l_deck (T : Txt P K mg fa cl nm fi) {qual : Str} {f : Addr} {cdv : Value} {A : Around} {outer : List Env} {s : Shared} {H : Hp} (hr : Room 0 (A.deeper (envOfC qual (defScope s_l_deck) s.heap.objs.size f cdv))) (hgd : A.guards = some []) : PS (cxOf CX0 P w K mg base N_l_deck qual (defScope s_l_deck) f cdv A outer s H E0).nox ((defBody s_l_deck).getD 1 (.Pass ⟨0, 0, 0, 0⟩)) (TS3 ⟨K, dk, cl, nm⟩ g_l_deck) := by
  have nd : (N_l_deck).Nodup := sc_l_deck.nd
  have hu := hu_of hr
  have hu2 := hr.units
  exact (s3_for PassesOwn.never rfl (i3_lst (e3_var 1)) (g3_name 3 nd) (s3_one (s3_set 2 nd (e3_op op_mod lift_mod (pe_b (e3_callTy call_int1 lift_int1 rfl T.b_int rfl (e3ab_cons (pe_b (e3_op op_addD (lift_add rfl) (pe_b (e3_op op_addD (lift_add rfl) (pe_b (e3_op op_mulD lift_mul (e3_varB 2) (pe_b e3_int))) (pe_b (e3_op op_mod lift_mod (pe_b (e3_callTy call_int1 lift_int1 rfl T.b_int rfl (e3ab_cons (e3_varB 3) e3ab_nil))) (pe_b e3_int))))) (pe_b e3_int))) e3ab_nil))) (pe_b e3_int)))))
def e_l_deck : Expr := match (defBody s_l_deck).getD 2 (.Pass ⟨0, 0, 0, 0⟩) with | .Return (some e) _ => e | _ => .Name "" ⟨0, 0, 0, 0⟩
theorem disp_l_deck (T : Txt P K mg fa cl nm fi) {qual : Str} {f : Addr} {cdv : Value} {A : Around} {outer : List Env} {s : Shared} {H : Hp} (hr : Room 0 (A.deeper (envOfC qual (defScope s_l_deck) s.heap.objs.size f cdv))) (hgd : A.guards = some []) : PE (cxOf CX0 P w K mg base N_l_deck qual (defScope s_l_deck) f cdv A outer s H E0).nox e_l_deck (T3n ⟨K, dk, cl, nm⟩ f_l_deck) := by
  have nd : (N_l_deck).Nodup := sc_l_deck.nd
  have hu := hu_of hr
  have hu2 := hr.units
  exact (e3n_disp (ps := [(Str.ofString "cells", (mrevL (evarB 1))), (Str.ofString "blend", (evar 2)), (Str.ofString "draws", (cst (.int 0)))]) (pps_cons pe_str (e3_revL (e3_varB 1)) (pps_cons pe_str (e3_var 2) (pps_cons pe_str e3_int pps_nil))))
abbrev s_l_draw : Stmt := top 13
abbrev N_l_draw : List Str := ["_law_deck_here", "_law_below", "_law_turn", "_law_cell", "_law_mixed"]
theorem sc_l_draw : FnScope N_l_draw ["_law_deck_here", "_law_below"] (defScope s_l_draw) := ⟨rfl, rfl, rfl, by decide +kernel, rfl, by decide +kernel, by decide +kernel⟩
def g_l_draw : St3 := (sseq (sDraws 0 (m2 dAdd (dkInt 0 (·.draws)) (cst (.int 1))))
    (sseq (spar 2 3 (acons (dkInt 0 (·.draws)) (acons (dkInt 0 (·.blend)) anil)))
    (sseq (sif (tCells 0) (sseq (sPop 0 3)
    (sseq (sif (tst (m2 (dCmp fun i j => decide (j ≤ i)) (evarB 3) (m2 dPow (cst (.int 10)) (cst (.int 18))))) (sseq (sPush 0 (m2 dDiv (evarB 3) (evarB 1)))
    (sret (m2 dMod (mC dInt (acons (evarB 3) anil)) (evarB 1)))) snil)
    (sasg (m2 dAdd (evarB 3) (dkInt 0 (·.blend))) (gn 3)))) snil)
    (sseq (sasg (m2 dMod (m2 dMul (mC dInt (acons (m2 dAdd (m2 dAdd (m2 dMod (mC dInt (acons (evarB 3) anil)) (cst (.int 2147483629))) (m2 dMul (m2 dMul (cst (.int 60271)) (evarB 2)) (evarB 2))) (cst (.int 11))) anil)) (cst (.int 40692))) (cst (.int 2147483647))) (gn 4))
    (sseq (sasg (m2 dMod (mC dInt (acons (m2 dAdd (m2 dAdd (m2 dMul (evarB 4) (evarB 4)) (m2 dMul (cst (.int 69621)) (evarB 2))) (cst (.int 58))) anil)) (cst (.int 2147483587))) (gn 4))
    (sret (m2 dMod (m2 dDiv (m2 dMod (mC dInt (acons (m2 dMul (evarB 4) (cst (.int 39373))) anil)) (cst (.int 2147483563))) (cst (.int 64))) (evarB 1))))))))
def m_l_draw : Fun3 := defM 5 g_l_draw
theorem ok_l_draw {f : Addr} {fd : FuncData} (F : Fun K "_law_draw" "_law_draw" s_l_draw f fd) (T : Txt P K mg fa cl nm fi) : FnG P w K mg base 1 f fd ["_law_deck_here", "_law_below"] (Sp3 ⟨K, dk, cl, nm⟩ 2 m_l_draw) := by
  refine fn3 (N := N_l_draw) (ps := ["_law_deck_here", "_law_below"]) (g := g_l_draw) F sc_l_draw fun cdv A outer s H hr hgd => ?_
  have nd : (N_l_draw).Nodup := sc_l_draw.nd
  have hu := hu_of hr
  have hu2 := hr.units
  exact (s3_cons (s3_draws hu (pv 0) (e3_op op_addD (lift_add rfl) (pe_b (e3_draws hu (pv 0))) (pe_b e3_int)))
      (s3_cons (s3_par 2 3 rfl nd (e3a_cons (e3_draws hu (pv 0)) (e3a_cons (e3_blend hu (pv 0)) e3a_nil)))
      (s3_cons (s3_if (e3_cells hu hu2 (pv 0)) (s3_cons (s3_pop nd hu (pv 0))
      (s3_cons (s3_if (e3_tcmp op_ge lift_cmp (e3_varB 3) (pe_b (e3_op op_pow lift_pow (pe_b e3_int) (pe_b e3_int)))) (s3_cons (s3_push hu (pv 0) (e3_op op_fdiv lift_div (e3_varB 3) (e3_varB 1)))
      (s3_one (s3_ret (e3_op op_mod lift_mod (pe_b (e3_callTy call_int1 lift_int1 rfl T.b_int rfl (e3ab_cons (e3_varB 3) e3ab_nil))) (e3_varB 1))))) s3_nil)
      (s3_one (s3_set 3 nd (e3_op op_addD (lift_add rfl) (e3_varB 3) (pe_b (e3_blend hu (pv 0)))))))) s3_nil)
      (s3_cons (s3_set 4 nd (e3_op op_mod lift_mod (pe_b (e3_op op_mulD lift_mul (pe_b (e3_callTy call_int1 lift_int1 rfl T.b_int rfl (e3ab_cons (pe_b (e3_op op_addD (lift_add rfl) (pe_b (e3_op op_addD (lift_add rfl) (pe_b (e3_op op_mod lift_mod (pe_b (e3_callTy call_int1 lift_int1 rfl T.b_int rfl (e3ab_cons (e3_varB 3) e3ab_nil))) (pe_b e3_int))) (pe_b (e3_op op_mulD lift_mul (pe_b (e3_op op_mulD lift_mul (pe_b e3_int) (e3_varB 2))) (e3_varB 2))))) (pe_b e3_int))) e3ab_nil))) (pe_b e3_int))) (pe_b e3_int)))
      (s3_cons (s3_set 4 nd (e3_op op_mod lift_mod (pe_b (e3_callTy call_int1 lift_int1 rfl T.b_int rfl (e3ab_cons (pe_b (e3_op op_addD (lift_add rfl) (pe_b (e3_op op_addD (lift_add rfl) (pe_b (e3_op op_mulD lift_mul (e3_varB 4) (e3_varB 4))) (pe_b (e3_op op_mulD lift_mul (pe_b e3_int) (e3_varB 2))))) (pe_b e3_int))) e3ab_nil))) (pe_b e3_int)))
      (s3_one (s3_ret (e3_op op_mod lift_mod (pe_b (e3_op op_fdiv lift_div (pe_b (e3_op op_mod lift_mod (pe_b (e3_callTy call_int1 lift_int1 rfl T.b_int rfl (e3ab_cons (pe_b (e3_op op_mulD lift_mul (e3_varB 4) (pe_b e3_int))) e3ab_nil))) (pe_b e3_int))) (pe_b e3_int))) (e3_varB 1)))))))))
abbrev s_l_made : Stmt := top 15
abbrev N_l_made : List Str := ["_law_at", "_law_it", "_law_bare"]
theorem sc_l_made : FnScope N_l_made ["_law_at", "_law_it"] (defScope s_l_made) := ⟨rfl, rfl, rfl, by decide +kernel, rfl, by decide +kernel, by decide +kernel⟩
def g_l_made : St3 := (sseq (sif (tst (m2 dEqA (evarB 0) (cst (.int 0)))) (sret (mlst (acons (mexc 0 1 (acons (evar 1) anil)) (acons (mexc 0 1 (acons (evar 1) anil)) anil)))) snil)
    (sseq (sif (tst (m2 dEqA (evarB 0) (cst (.int 1)))) (sret (mlst (acons (mexc 1 1 (acons (evar 1) anil)) (acons (mexc 1 1 (acons (evar 1) anil)) anil)))) snil)
    (sseq (sif (tst (m2 dEqA (evarB 0) (cst (.int 2)))) (sret (mlst (acons (mexc 2 1 (acons (evar 1) anil)) (acons (mexc 2 1 (acons (evar 1) anil)) anil)))) snil)
    (sseq (sif (tst (m2 dEqA (evarB 0) (cst (.int 3)))) (sret (mlst (acons (mexc 3 1 (acons (evar 1) anil)) (acons (mexc 3 1 (acons (evar 1) anil)) anil)))) snil)
    (sseq (sif (tst (m2 dEqA (evarB 0) (cst (.int 4)))) (sret (mlst (acons (mexc 4 1 (acons (evar 1) anil)) (acons (mexc 4 1 (acons (evar 1) anil)) anil)))) snil)
    (sseq (sif (tst (m2 dEqA (evarB 0) (cst (.int 5)))) (sret (mlst (acons (mexc 5 1 (acons (evar 1) anil)) (acons (mexc 5 1 (acons (evar 1) anil)) anil)))) snil)
    (sseq (sasg (mlst (acons (mlst (acons (mexc 6 0 anil) (acons (mexc 6 0 anil) anil))) (acons (mlst (acons (mexc 7 0 anil) (acons (mexc 7 0 anil) anil))) (acons (mlst (acons (mexc 8 0 anil) (acons (mexc 8 0 anil) anil))) anil)))) (gn 2))
    (sret (m2 dIx (evarB 2) (m2 dSub (evarB 0) (cst (.int 6))))))))))))
def m_l_made : Fun3 := defM 3 g_l_made
theorem ok_l_made {f : Addr} {fd : FuncData} (F : Fun K "_law_made" "_law_made" s_l_made f fd) (T : Txt P K mg fa cl nm fi) : FnG P w K mg base 1 f fd ["_law_at", "_law_it"] (Sp3 ⟨K, dk, cl, nm⟩ 2 m_l_made) := by
  refine fn3 (N := N_l_made) (ps := ["_law_at", "_law_it"]) (g := g_l_made) F sc_l_made fun cdv A outer s H hr hgd => ?_
  have nd : (N_l_made).Nodup := sc_l_made.nd
  have hu := hu_of hr
  have hu2 := hr.units
  exact (s3_cons (s3_if (e3_tcmp (op_eqA hu2) (lift_eqA rfl) (e3_varB 0) (pe_b e3_int)) (s3_one (s3_ret (e3_lst (e3a_cons (e3_exc1 (M := ⟨K, dk, cl, nm⟩) (c := 0) T.kb_BadTransducer T.in_BadTransducer T.x_BadTransducer (room1 hr) (e3a_cons (e3_var 1) e3a_nil) T.n_BadTransducer rfl) (e3a_cons (e3_excK (M := ⟨K, dk, cl, nm⟩) (c := 0) T.kb_BadTransducer T.in_BadTransducer T.x_BadTransducer (room1 hr) (e3k_cons (e3_var 1) e3k_nil) T.n_BadTransducer rfl) e3a_nil))))) s3_nil)
      (s3_cons (s3_if (e3_tcmp (op_eqA hu2) (lift_eqA rfl) (e3_varB 0) (pe_b e3_int)) (s3_one (s3_ret (e3_lst (e3a_cons (e3_exc1 (M := ⟨K, dk, cl, nm⟩) (c := 1) T.kb_BadText T.in_BadText T.x_BadText (room1 hr) (e3a_cons (e3_var 1) e3a_nil) T.n_BadText rfl) (e3a_cons (e3_excK (M := ⟨K, dk, cl, nm⟩) (c := 1) T.kb_BadText T.in_BadText T.x_BadText (room1 hr) (e3k_cons (e3_var 1) e3k_nil) T.n_BadText rfl) e3a_nil))))) s3_nil)
      (s3_cons (s3_if (e3_tcmp (op_eqA hu2) (lift_eqA rfl) (e3_varB 0) (pe_b e3_int)) (s3_one (s3_ret (e3_lst (e3a_cons (e3_exc1 (M := ⟨K, dk, cl, nm⟩) (c := 2) T.kb_NotFunctional T.in_NotFunctional T.x_NotFunctional (room1 hr) (e3a_cons (e3_var 1) e3a_nil) T.n_NotFunctional rfl) (e3a_cons (e3_excK (M := ⟨K, dk, cl, nm⟩) (c := 2) T.kb_NotFunctional T.in_NotFunctional T.x_NotFunctional (room1 hr) (e3k_cons (e3_var 1) e3k_nil) T.n_NotFunctional rfl) e3a_nil))))) s3_nil)
      (s3_cons (s3_if (e3_tcmp (op_eqA hu2) (lift_eqA rfl) (e3_varB 0) (pe_b e3_int)) (s3_one (s3_ret (e3_lst (e3a_cons (e3_exc1 (M := ⟨K, dk, cl, nm⟩) (c := 3) T.kb_Diverges T.in_Diverges T.x_Diverges (room1 hr) (e3a_cons (e3_var 1) e3a_nil) T.n_Diverges rfl) (e3a_cons (e3_excK (M := ⟨K, dk, cl, nm⟩) (c := 3) T.kb_Diverges T.in_Diverges T.x_Diverges (room1 hr) (e3k_cons (e3_var 1) e3k_nil) T.n_Diverges rfl) e3a_nil))))) s3_nil)
      (s3_cons (s3_if (e3_tcmp (op_eqA hu2) (lift_eqA rfl) (e3_varB 0) (pe_b e3_int)) (s3_one (s3_ret (e3_lst (e3a_cons (e3_exc1 (M := ⟨K, dk, cl, nm⟩) (c := 4) T.kb_BadLetter T.in_BadLetter T.x_BadLetter (room1 hr) (e3a_cons (e3_var 1) e3a_nil) T.n_BadLetter rfl) (e3a_cons (e3_excK (M := ⟨K, dk, cl, nm⟩) (c := 4) T.kb_BadLetter T.in_BadLetter T.x_BadLetter (room1 hr) (e3k_cons (e3_var 1) e3k_nil) T.n_BadLetter rfl) e3a_nil))))) s3_nil)
      (s3_cons (s3_if (e3_tcmp (op_eqA hu2) (lift_eqA rfl) (e3_varB 0) (pe_b e3_int)) (s3_one (s3_ret (e3_lst (e3a_cons (e3_exc1 (M := ⟨K, dk, cl, nm⟩) (c := 5) T.kb_NoOutput T.in_NoOutput T.x_NoOutput (room1 hr) (e3a_cons (e3_var 1) e3a_nil) T.n_NoOutput rfl) (e3a_cons (e3_excK (M := ⟨K, dk, cl, nm⟩) (c := 5) T.kb_NoOutput T.in_NoOutput T.x_NoOutput (room1 hr) (e3k_cons (e3_var 1) e3k_nil) T.n_NoOutput rfl) e3a_nil))))) s3_nil)
      (s3_cons (s3_set 2 nd (e3_lst (e3a_cons (e3_lst (e3a_cons (e3_exc0 (M := ⟨K, dk, cl, nm⟩) (c := 6) T.kb_NothingToUndo T.in_NothingToUndo T.x_NothingToUndo (room1 hr) rfl) (e3a_cons (e3_exc0 (M := ⟨K, dk, cl, nm⟩) (c := 6) T.kb_NothingToUndo T.in_NothingToUndo T.x_NothingToUndo (room1 hr) rfl) e3a_nil))) (e3a_cons (e3_lst (e3a_cons (e3_exc0 (M := ⟨K, dk, cl, nm⟩) (c := 7) T.kb_InvalidCommand T.in_InvalidCommand T.x_InvalidCommand (room1 hr) rfl) (e3a_cons (e3_exc0 (M := ⟨K, dk, cl, nm⟩) (c := 7) T.kb_InvalidCommand T.in_InvalidCommand T.x_InvalidCommand (room1 hr) rfl) e3a_nil))) (e3a_cons (e3_lst (e3a_cons (e3_exc0 (M := ⟨K, dk, cl, nm⟩) (c := 8) T.kb_NoTransducer T.in_NoTransducer T.x_NoTransducer (room1 hr) rfl) (e3a_cons (e3_exc0 (M := ⟨K, dk, cl, nm⟩) (c := 8) T.kb_NoTransducer T.in_NoTransducer T.x_NoTransducer (room1 hr) rfl) e3a_nil))) e3a_nil)))))
      (s3_one (s3_ret (e3_ix ix_seq (lift_ix rfl) (e3_varB 2) (pe_b (e3_op op_sub lift_sub (e3_varB 0) (pe_b e3_int)))))))))))))
abbrev s_l_kept : Stmt := top 16
abbrev N_l_kept : List Str := ["_law_at", "_law_e"]
theorem sc_l_kept : FnScope N_l_kept ["_law_at", "_law_e"] (defScope s_l_kept) := ⟨rfl, rfl, rfl, by decide +kernel, rfl, by decide +kernel, by decide +kernel⟩
def g_l_kept : St3 := (sseq (sif (tst (m2 (dCmp fun i j => decide (i < j)) (evarB 0) (cst (.int 2)))) (sret (mlst (acons (vif (tst (m2 dEqA (evarB 0) (cst (.int 0)))) (matt 0 (evar 1)) (matt 1 (evar 1))) anil))) snil)
    (sseq (sif (tst (m2 (dCmp fun i j => decide (i < j)) (evarB 0) (cst (.int 4)))) (sret (mlst (acons (vif (tst (m2 dEqA (evarB 0) (cst (.int 2)))) (matt 2 (evar 1)) (matt 3 (evar 1))) anil))) snil)
    (sret (vif (tst (m2 (dCmp fun i j => decide (i < j)) (evarB 0) (cst (.int 6)))) (mlst (acons (vif (tst (m2 dEqA (evarB 0) (cst (.int 4)))) (matt 4 (evar 1)) (matt 5 (evar 1))) anil)) (mlst anil)))))
def m_l_kept : Fun3 := defM 2 g_l_kept
theorem ok_l_kept {f : Addr} {fd : FuncData} (F : Fun K "_law_kept" "_law_kept" s_l_kept f fd) (T : Txt P K mg fa cl nm fi) : FnG P w K mg base 1 f fd ["_law_at", "_law_e"] (Sp3 ⟨K, dk, cl, nm⟩ 2 m_l_kept) := by
  refine fn3 (N := N_l_kept) (ps := ["_law_at", "_law_e"]) (g := g_l_kept) F sc_l_kept fun cdv A outer s H hr hgd => ?_
  have nd : (N_l_kept).Nodup := sc_l_kept.nd
  have hu := hu_of hr
  have hu2 := hr.units
  exact (s3_cons (s3_if (e3_tcmp op_lt lift_cmp (e3_varB 0) (pe_b e3_int)) (s3_one (s3_ret (e3_lst (e3a_cons (e3_if (e3_tcmp (op_eqA hu2) (lift_eqA rfl) (e3_varB 0) (pe_b e3_int)) (e3_att (noG := T.ng_BadTransducer) T.ea_BadTransducer (e3_var 1) T.n_BadTransducer) (e3_att (noG := T.ng_BadText) T.ea_BadText (e3_var 1) T.n_BadText)) e3a_nil)))) s3_nil)
      (s3_cons (s3_if (e3_tcmp op_lt lift_cmp (e3_varB 0) (pe_b e3_int)) (s3_one (s3_ret (e3_lst (e3a_cons (e3_if (e3_tcmp (op_eqA hu2) (lift_eqA rfl) (e3_varB 0) (pe_b e3_int)) (e3_att (noG := T.ng_NotFunctional) T.ea_NotFunctional (e3_var 1) T.n_NotFunctional) (e3_att (noG := T.ng_Diverges) T.ea_Diverges (e3_var 1) T.n_Diverges)) e3a_nil)))) s3_nil)
      (s3_one (s3_ret (e3_if (e3_tcmp op_lt lift_cmp (e3_varB 0) (pe_b e3_int)) (e3_lst (e3a_cons (e3_if (e3_tcmp (op_eqA hu2) (lift_eqA rfl) (e3_varB 0) (pe_b e3_int)) (e3_att (noG := T.ng_BadLetter) T.ea_BadLetter (e3_var 1) T.n_BadLetter) (e3_att (noG := T.ng_NoOutput) T.ea_NoOutput (e3_var 1) T.n_NoOutput)) e3a_nil)) (e3_lst e3a_nil))))))
def gH_l_kept (x1 : Addr) : St3 := (sseq (sif (tst (m2 (dCmp fun i j => decide (i < j)) (evarB 0) (cst (.int 2)))) (sret (mlst (acons (vif (tst (m2 dEqA (evarB 0) (cst (.int 0)))) (matt 0 (evar 1)) (matt 1 (evar 1))) anil))) snil)
    (sseq (sif (tst (m2 (dCmp fun i j => decide (i < j)) (evarB 0) (cst (.int 4)))) (sret (mlst (acons (vif (tst (m2 dEqA (evarB 0) (cst (.int 2)))) (matt 2 (evar 1)) (matt 3 (evar 1))) anil))) snil)
    (sret (vif (tst (m2 (dCmp fun i j => decide (i < j)) (evarB 0) (cst (.int 6)))) (mlst (acons (vif (tst (m2 dEqA (evarB 0) (cst (.int 4)))) (matt 4 (evar 1)) (matt 5 (evar 1))) anil)) (mlst anil)))))
def mH_l_kept (x1 : Addr) : Fun3 := defM 2 (gH_l_kept x1)
theorem okH_l_kept {f : Addr} {fd : FuncData} (F : Fun K "_law_kept" "_law_kept" s_l_kept f fd) (T : Txt P K mg fa cl nm fi) (hb : Binds K fd ["_law_at", "_law_e"] []) : PosH P w K mg base 1 f fun x1 => Sp3 ⟨K, dk, cl, nm⟩ 2 (mH_l_kept x1) := by
  refine fn3H (N := N_l_kept) (ps := ["_law_at", "_law_e"]) (g := gH_l_kept) F sc_l_kept hb fun cdv A outer s H x1 hr hgd hh => ?_
  have nd : (N_l_kept).Nodup := sc_l_kept.nd
  have hu := huH hr
  have hu2 := hu2H hr
  exact (s3_cons (s3_if (e3_tcmp op_lt lift_cmp (e3_varB 0) (pe_b e3_int)) (s3_one (s3_ret (e3_lst (e3a_cons (e3_if (e3_tcmp (op_eqA hu2) (lift_eqA rfl) (e3_varB 0) (pe_b e3_int)) (e3_att (noG := T.ng_BadTransducer) T.ea_BadTransducer (e3_var 1) T.n_BadTransducer) (e3_att (noG := T.ng_BadText) T.ea_BadText (e3_var 1) T.n_BadText)) e3a_nil)))) s3_nil)
      (s3_cons (s3_if (e3_tcmp op_lt lift_cmp (e3_varB 0) (pe_b e3_int)) (s3_one (s3_ret (e3_lst (e3a_cons (e3_if (e3_tcmp (op_eqA hu2) (lift_eqA rfl) (e3_varB 0) (pe_b e3_int)) (e3_att (noG := T.ng_NotFunctional) T.ea_NotFunctional (e3_var 1) T.n_NotFunctional) (e3_att (noG := T.ng_Diverges) T.ea_Diverges (e3_var 1) T.n_Diverges)) e3a_nil)))) s3_nil)
      (s3_one (s3_ret (e3_if (e3_tcmp op_lt lift_cmp (e3_varB 0) (pe_b e3_int)) (e3_lst (e3a_cons (e3_if (e3_tcmp (op_eqA hu2) (lift_eqA rfl) (e3_varB 0) (pe_b e3_int)) (e3_att (noG := T.ng_BadLetter) T.ea_BadLetter (e3_var 1) T.n_BadLetter) (e3_att (noG := T.ng_NoOutput) T.ea_NoOutput (e3_var 1) T.n_NoOutput)) e3a_nil)) (e3_lst e3a_nil))))))
abbrev s_l_kinds : Stmt := top 17
abbrev N_l_kinds : List Str := ["_law_e", "_law_some", "_law_n"]
theorem sc_l_kinds : FnScope N_l_kinds ["_law_e"] (defScope s_l_kinds) := ⟨rfl, rfl, rfl, by decide +kernel, rfl, by decide +kernel, by decide +kernel⟩
def g_l_kinds : St3 := (sseq (sasg (mlst (acons (misx (fun i => isT 9 i 0) (evar 0)) (acons (misx (fun i => isT 9 i 1) (evar 0)) (acons (misx (fun i => isT 9 i 2) (evar 0)) (acons (misx (fun i => isT 9 i 3) (evar 0)) anil))))) (gn 1))
    (sseq (sasg (m2 dAdd (evarB 1) (mlst (acons (misx (fun i => isT 9 i 4) (evar 0)) (acons (misx (fun i => isT 9 i 5) (evar 0)) (acons (misx (fun i => isT 9 i 6) (evar 0)) anil))))) (gn 1))
    (sseq (sasg (m2 dAdd (evarB 1) (mlst (acons (misx (fun i => isT 9 i 7) (evar 0)) (acons (misx (fun i => isT 9 i 8) (evar 0)) anil)))) (gn 1))
    (sret (mlc (irng1 (acons (cst (.int 9)) anil)) (gn 2) (tst (m2 dIx (evarB 1) (evarB 2))) (evar 2) [2])))))
def m_l_kinds : Fun3 := defM 3 g_l_kinds
theorem ok_l_kinds {f : Addr} {fd : FuncData} (F : Fun K "_law_kinds" "_law_kinds" s_l_kinds f fd) (T : Txt P K mg fa cl nm fi) : FnG P w K mg base 1 f fd ["_law_e"] (Sp3 ⟨K, dk, cl, nm⟩ 1 m_l_kinds) := by
  refine fn3 (N := N_l_kinds) (ps := ["_law_e"]) (g := g_l_kinds) F sc_l_kinds fun cdv A outer s H hr hgd => ?_
  have nd : (N_l_kinds).Nodup := sc_l_kinds.nd
  have hu := hu_of hr
  have hu2 := hr.units
  exact (s3_cons (s3_set 1 nd (e3_lst (e3a_cons (e3_isx (M := ⟨K, dk, cl, nm⟩) (f := fun i => isT 9 i 0) rfl T.b_isinstance (pe_glob (v := .ref (cl 0)) rfl T.x_BadTransducer rfl) (.own _) (fun c b h => T.kt c 0 b h) (e3_var 0)) (e3a_cons (e3_isx (M := ⟨K, dk, cl, nm⟩) (f := fun i => isT 9 i 1) rfl T.b_isinstance (pe_glob (v := .ref (cl 1)) rfl T.x_BadText rfl) (.own _) (fun c b h => T.kt c 1 b h) (e3_var 0)) (e3a_cons (e3_isx (M := ⟨K, dk, cl, nm⟩) (f := fun i => isT 9 i 2) rfl T.b_isinstance (pe_glob (v := .ref (cl 2)) rfl T.x_NotFunctional rfl) (.own _) (fun c b h => T.kt c 2 b h) (e3_var 0)) (e3a_cons (e3_isx (M := ⟨K, dk, cl, nm⟩) (f := fun i => isT 9 i 3) rfl T.b_isinstance (pe_glob (v := .ref (cl 3)) rfl T.x_Diverges rfl) (.own _) (fun c b h => T.kt c 3 b h) (e3_var 0)) e3a_nil))))))
      (s3_cons (s3_set 1 nd (e3_op op_addD (lift_add rfl) (e3_varB 1) (pe_b (e3_lst (e3a_cons (e3_isx (M := ⟨K, dk, cl, nm⟩) (f := fun i => isT 9 i 4) rfl T.b_isinstance (pe_glob (v := .ref (cl 4)) rfl T.x_BadLetter rfl) (.own _) (fun c b h => T.kt c 4 b h) (e3_var 0)) (e3a_cons (e3_isx (M := ⟨K, dk, cl, nm⟩) (f := fun i => isT 9 i 5) rfl T.b_isinstance (pe_glob (v := .ref (cl 5)) rfl T.x_NoOutput rfl) (.own _) (fun c b h => T.kt c 5 b h) (e3_var 0)) (e3a_cons (e3_isx (M := ⟨K, dk, cl, nm⟩) (f := fun i => isT 9 i 6) rfl T.b_isinstance (pe_glob (v := .ref (cl 6)) rfl T.x_NothingToUndo rfl) (.own _) (fun c b h => T.kt c 6 b h) (e3_var 0)) e3a_nil)))))))
      (s3_cons (s3_set 1 nd (e3_op op_addD (lift_add rfl) (e3_varB 1) (pe_b (e3_lst (e3a_cons (e3_isx (M := ⟨K, dk, cl, nm⟩) (f := fun i => isT 9 i 7) rfl T.b_isinstance (pe_glob (v := .ref (cl 7)) rfl T.x_InvalidCommand rfl) (.own _) (fun c b h => T.kt c 7 b h) (e3_var 0)) (e3a_cons (e3_isx (M := ⟨K, dk, cl, nm⟩) (f := fun i => isT 9 i 8) rfl T.b_isinstance (pe_glob (v := .ref (cl 8)) rfl T.x_NoTransducer rfl) (.own _) (fun c b h => T.kt c 8 b h) (e3_var 0)) e3a_nil))))))
      (s3_one (s3_ret (e3_lcV (own := own0) (g := (gn 2)) (t := (tst (m2 dIx (evarB 1) (evarB 2)))) rfl nd (i3_rng1 rfl T.b_range (e3a_cons e3_int e3a_nil)) (blkOk_by (N := N_l_kinds) (sc := defScope s_l_kinds) (by decide +kernel)) (fun _ _ _ _ _ => (g3_name 2 nd)) (fun _ _ _ _ _ => (t3s_one (e3_tst (e3_ix ix_seq (lift_ix rfl) (e3_varB 1) (e3_varB 2))))) (fun _ _ _ _ _ => (e3_var 2))))))))
def gH_l_kinds (x1 : Addr) : St3 := (sseq (sasg (mlst (acons (misx (fun i => isT 9 i 0) (evar 0)) (acons (misx (fun i => isT 9 i 1) (evar 0)) (acons (misx (fun i => isT 9 i 2) (evar 0)) (acons (misx (fun i => isT 9 i 3) (evar 0)) anil))))) (gn 1))
    (sseq (sasg (m2 dAdd (evarB 1) (mlst (acons (misx (fun i => isT 9 i 4) (evar 0)) (acons (misx (fun i => isT 9 i 5) (evar 0)) (acons (misx (fun i => isT 9 i 6) (evar 0)) anil))))) (gn 1))
    (sseq (sasg (m2 dAdd (evarB 1) (mlst (acons (misx (fun i => isT 9 i 7) (evar 0)) (acons (misx (fun i => isT 9 i 8) (evar 0)) anil)))) (gn 1))
    (sret (mlc (irngH 0 x1 (acons (cst (.int 9)) anil)) (gn 2) (tst (m2 dIx (evarB 1) (evarB 2))) (evar 2) [2])))))
def mH_l_kinds (x1 : Addr) : Fun3 := defM 3 (gH_l_kinds x1)
theorem okH_l_kinds {f : Addr} {fd : FuncData} (F : Fun K "_law_kinds" "_law_kinds" s_l_kinds f fd) (T : Txt P K mg fa cl nm fi) (hb : Binds K fd ["_law_e"] []) : PosH P w K mg base 1 f fun x1 => Sp3 ⟨K, dk, cl, nm⟩ 1 (mH_l_kinds x1) := by
  refine fn3H (N := N_l_kinds) (ps := ["_law_e"]) (g := gH_l_kinds) F sc_l_kinds hb fun cdv A outer s H x1 hr hgd hh => ?_
  have nd : (N_l_kinds).Nodup := sc_l_kinds.nd
  have hu := huH hr
  have hu2 := hu2H hr
  exact (s3_cons (s3_set 1 nd (e3_lst (e3a_cons (e3_isx (M := ⟨K, dk, cl, nm⟩) (f := fun i => isT 9 i 0) rfl T.b_isinstance (pe_glob (v := .ref (cl 0)) rfl T.x_BadTransducer rfl) (.own _) (fun c b h => T.kt c 0 b h) (e3_var 0)) (e3a_cons (e3_isx (M := ⟨K, dk, cl, nm⟩) (f := fun i => isT 9 i 1) rfl T.b_isinstance (pe_glob (v := .ref (cl 1)) rfl T.x_BadText rfl) (.own _) (fun c b h => T.kt c 1 b h) (e3_var 0)) (e3a_cons (e3_isx (M := ⟨K, dk, cl, nm⟩) (f := fun i => isT 9 i 2) rfl T.b_isinstance (pe_glob (v := .ref (cl 2)) rfl T.x_NotFunctional rfl) (.own _) (fun c b h => T.kt c 2 b h) (e3_var 0)) (e3a_cons (e3_isx (M := ⟨K, dk, cl, nm⟩) (f := fun i => isT 9 i 3) rfl T.b_isinstance (pe_glob (v := .ref (cl 3)) rfl T.x_Diverges rfl) (.own _) (fun c b h => T.kt c 3 b h) (e3_var 0)) e3a_nil))))))
      (s3_cons (s3_set 1 nd (e3_op op_addD (lift_add rfl) (e3_varB 1) (pe_b (e3_lst (e3a_cons (e3_isx (M := ⟨K, dk, cl, nm⟩) (f := fun i => isT 9 i 4) rfl T.b_isinstance (pe_glob (v := .ref (cl 4)) rfl T.x_BadLetter rfl) (.own _) (fun c b h => T.kt c 4 b h) (e3_var 0)) (e3a_cons (e3_isx (M := ⟨K, dk, cl, nm⟩) (f := fun i => isT 9 i 5) rfl T.b_isinstance (pe_glob (v := .ref (cl 5)) rfl T.x_NoOutput rfl) (.own _) (fun c b h => T.kt c 5 b h) (e3_var 0)) (e3a_cons (e3_isx (M := ⟨K, dk, cl, nm⟩) (f := fun i => isT 9 i 6) rfl T.b_isinstance (pe_glob (v := .ref (cl 6)) rfl T.x_NothingToUndo rfl) (.own _) (fun c b h => T.kt c 6 b h) (e3_var 0)) e3a_nil)))))))
      (s3_cons (s3_set 1 nd (e3_op op_addD (lift_add rfl) (e3_varB 1) (pe_b (e3_lst (e3a_cons (e3_isx (M := ⟨K, dk, cl, nm⟩) (f := fun i => isT 9 i 7) rfl T.b_isinstance (pe_glob (v := .ref (cl 7)) rfl T.x_InvalidCommand rfl) (.own _) (fun c b h => T.kt c 7 b h) (e3_var 0)) (e3a_cons (e3_isx (M := ⟨K, dk, cl, nm⟩) (f := fun i => isT 9 i 8) rfl T.b_isinstance (pe_glob (v := .ref (cl 8)) rfl T.x_NoTransducer rfl) (.own _) (fun c b h => T.kt c 8 b h) (e3_var 0)) e3a_nil))))))
      (s3_one (s3_ret (e3_lcVH (x1 := x1) (i := 0) (own := own0) (g := (gn 2)) (t := (tst (m2 dIx (evarB 1) (evarB 2)))) hh rfl T.b_range nd (blkOk_by (N := N_l_kinds) (sc := defScope s_l_kinds) (by decide +kernel)) (e3a_cons e3_int e3a_nil) (fun _ _ _ _ _ => (g3_name 2 nd)) (fun _ _ _ _ _ => (t3s_one (e3_tst (e3_ix ix_seq (lift_ix rfl) (e3_varB 1) (e3_varB 2))))) (fun _ _ _ _ _ => (e3_var 2))))))))
abbrev s_l_pick : Stmt := top 14
abbrev N_l_pick : List Str := ["_law_deck_here", "_law_some"]
theorem sc_l_pick : FnScope N_l_pick ["_law_deck_here", "_law_some"] (defScope s_l_pick) := ⟨rfl, rfl, rfl, by decide +kernel, rfl, by decide +kernel, by decide +kernel⟩
def g_l_pick : St3 := (sret (m2 dIx (evarB 1) (callM m_l_draw 2 (acons (evar 0) (acons (mC dLen (acons (evarB 1) anil)) anil)))))
def m_l_pick : Fun3 := defM 2 g_l_pick
theorem ok_l_pick {f : Addr} {fd : FuncData} (F : Fun K "_law_pick" "_law_pick" s_l_pick f fd) (T : Txt P K mg fa cl nm fi) (G_l_draw : PosG P w K mg base 1 (fa 1) (Sp3 ⟨K, dk, cl, nm⟩ 2 m_l_draw)) : FnG P w K mg base 2 f fd ["_law_deck_here", "_law_some"] (Sp3 ⟨K, dk, cl, nm⟩ 2 m_l_pick) := by
  refine fn3 (N := N_l_pick) (ps := ["_law_deck_here", "_law_some"]) (g := g_l_pick) F sc_l_pick fun cdv A outer s H hr hgd => ?_
  have nd : (N_l_pick).Nodup := sc_l_pick.nd
  have hu := hu_of hr
  have hu2 := hr.units
  exact (s3_one (s3_ret (e3_ix ix_seq (lift_ix rfl) (e3_varB 1) (pe_b (e3_call G_l_draw (hr.mono (by decide)) hgd rfl T.c_l_draw T.k_l_draw (e3a_cons (e3_var 0) (e3a_cons (e3_callB call_len (lift_len rfl) rfl T.b_len rfl (e3ab_cons (e3_varB 1) e3ab_nil)) e3a_nil)))))))
abbrev s_l_caught : Stmt := top 18
abbrev N_l_caught : List Str := ["_law_at", "_law_it", "_law_found", "_law_e"]
theorem sc_l_caught : FnScope N_l_caught ["_law_at", "_law_it"] (defScope s_l_caught) := ⟨rfl, rfl, rfl, by decide +kernel, rfl, by decide +kernel, by decide +kernel⟩
def h_l_caught (a : Addr) : St3 := (sasg (mlst (acons (callM (mH_l_kinds a) 1 (acons (evar 3) anil)) (acons (callM (mH_l_kept a) 2 (acons (evar 0) (acons (evar 3) anil))) anil))) (gn 2))
/-- what the except suite does with an exception of the class c -/
def gx_l_caught (c : Nat) (ds : List D) : St3 := fun e w => match e with
  | [some (false, .int a), x, _, _] => if a = c ∧ c < 9 ∧ ds.length = (if c < 6 then 1 else 0) then .nx [some (false, .int a), x, some (false, .lst [.lst [.int c], .lst ds]), none] w else .bad
  | _ => .bad
theorem kindsH_eq (a : Addr) (c : Nat) (ds : List D) (w : Wd) (hc : c < 9) : mH_l_kinds a [.exc c (some a) ds] w = .ok (.lst [.int c]) w := by
  have h : ∀ (x : Option (Bool × D)), holdsH 0 a [some (false, .exc c (some a) ds), x, none] = true := fun x => by simp [holdsH]
  have key : ∀ d : D, irngH 0 a (acons (cst (.int 9)) anil) [some (false, .exc c (some a) ds), some (false, d), none] w = .ok ((List.range 9).map fun i : Nat => .int i) w := fun d => by
    unfold irngH
    rw [h]
    rfl
  rcases (by omega : c = 0 ∨ c = 1 ∨ c = 2 ∨ c = 3 ∨ c = 4 ∨ c = 5 ∨ c = 6 ∨ c = 7 ∨ c = 8) with rfl | rfl | rfl | rfl | rfl | rfl | rfl | rfl | rfl <;>
  · unfold mH_l_kinds defM gH_l_kinds
    show runS (sret (mlc (irngH 0 a (acons (cst (.int 9)) anil)) _ _ _ _) [some (false, .exc _ (some a) ds), some (false, .lst [_, _, _, _, _, _, _, _, _]), none] w) = _
    unfold sret mlc
    rw [key]
    rfl
theorem ds_of {c : Nat} {ds : List D} (hl : ds.length = (if c < 6 then 1 else 0)) : (c < 6 ∧ ∃ d, ds = [d]) ∨ (6 ≤ c ∧ ds = []) := by
  by_cases h : c < 6
  · rw [if_pos h] at hl
    obtain ⟨d, rfl⟩ := List.length_eq_one_iff.mp hl
    exact .inl ⟨h, d, rfl⟩
  · rw [if_neg h] at hl
    exact .inr ⟨by omega, List.length_eq_zero_iff.mp hl⟩
theorem keptH_eq (a : Addr) (c : Nat) (ds : List D) (w : Wd) (hc : c < 9) (hl : ds.length = (if c < 6 then 1 else 0)) : mH_l_kept a [.int c, .exc c (some a) ds] w = .ok (.lst ds) w := by
  rcases ds_of hl with ⟨h, d, rfl⟩ | ⟨h, rfl⟩
  · rcases (by omega : c = 0 ∨ c = 1 ∨ c = 2 ∨ c = 3 ∨ c = 4 ∨ c = 5) with rfl | rfl | rfl | rfl | rfl | rfl <;> rfl
  · rcases (by omega : c = 6 ∨ c = 7 ∨ c = 8) with rfl | rfl | rfl <;> rfl
theorem acons_ok {fe : M3 D} {fs : M3 (List D)} {env : Env3} {w w1 w2 : Wd} {d : D} {ds : List D} (h1 : fe env w = .ok d w1) (h2 : fs env w1 = .ok ds w2) : acons fe fs env w = .ok (d :: ds) w2 := by
  unfold acons M3.bind
  rw [h1]
  dsimp only
  rw [h2]
  rfl
theorem mlst_ok {fs : M3 (List D)} {env : Env3} {w w1 : Wd} {ds : List D} (h : fs env w = .ok ds w1) (hz : ds.length ≤ SL) : mlst fs env w = .ok (.lst ds) w1 := by
  unfold mlst M3.bind
  rw [h]
  dsimp only
  rw [if_pos hz]
  rfl
theorem hx_l_caught {P : Program} {K : PySem.W.Frag} {mg : Str → Option Value} {fa : Nat → Addr} {cl : Nat → Addr} {nm : Nat → List Str} {fi : Nat → Addr} (T : Txt P K mg fa cl nm fi) : ∀ (a : Addr) (c : Nat) (ds : List D) (e : Env3) (w : Wd), gx_l_caught c ds e w ≠ .bad →
    outS 3 (h_l_caught a (e.set 3 (some (false, .exc c (some a) ds))) w) = gx_l_caught c ds e w ∧ 3 < e.length ∧ PySem.W.exmOne K (.ref (cl c)) (.ref (cl 9)) = some true := by
  intro a c ds e w hne
  unfold gx_l_caught at hne ⊢
  split at hne
  · rename_i a' x y z
    by_cases h : a' = (c : Int) ∧ c < 9 ∧ ds.length = (if c < 6 then 1 else 0)
    · rw [if_pos h]
      obtain ⟨rfl, hc, hl⟩ := h
      refine ⟨?_, by simp, T.xm c hc⟩
      have h1 := kindsH_eq a c ds w hc
      have h2 := keptH_eq a c ds w hc hl
      have h3 : h_l_caught a [some (false, .int c), x, y, some (false, .exc c (some a) ds)] w = .nx [some (false, .int c), x, some (false, .lst [.lst [.int c], .lst ds]), some (false, .exc c (some a) ds)] w := by
        have e1 : callM (mH_l_kinds a) 1 (acons (evar 3) anil) [some (false, .int c), x, y, some (false, .exc c (some a) ds)] w = mH_l_kinds a [.exc c (some a) ds] w := rfl
        have e2 : callM (mH_l_kept a) 2 (acons (evar 0) (acons (evar 3) anil)) [some (false, .int c), x, y, some (false, .exc c (some a) ds)] w = mH_l_kept a [.int c, .exc c (some a) ds] w := rfl
        rw [h1] at e1
        rw [h2] at e2
        have e3 := mlst_ok (acons_ok e1 (acons_ok e2 (rfl : anil _ _ = .ok [] w))) (show 2 ≤ SL by decide)
        unfold h_l_caught sasg
        rw [e3]
        rfl
      show outS 3 (h_l_caught a [some (false, .int c), x, y, some (false, .exc c (some a) ds)] w) = _
      rw [h3]
      rfl
    · rw [if_neg h] at hne
      exact absurd rfl hne
  · exact absurd rfl hne

def g_l_caught : St3 := (sseq (sasg (cst .non) (gn 2))
    (sseq (stry (xseq (xif (tst (m2 dEqA (evarB 0) (cst (.int 0)))) (xraise 0 1 (acons (evar 1) anil)) (xlift snil))
    (xseq (xif (tst (m2 dEqA (evarB 0) (cst (.int 1)))) (xraise 1 1 (acons (evar 1) anil)) (xlift snil))
    (xseq (xif (tst (m2 dEqA (evarB 0) (cst (.int 2)))) (xraise 2 1 (acons (evar 1) anil)) (xlift snil))
    (xseq (xif (tst (m2 dEqA (evarB 0) (cst (.int 3)))) (xraise 3 1 (acons (evar 1) anil)) (xlift snil))
    (xseq (xif (tst (m2 dEqA (evarB 0) (cst (.int 4)))) (xraise 4 1 (acons (evar 1) anil)) (xlift snil))
    (xseq (xif (tst (m2 dEqA (evarB 0) (cst (.int 5)))) (xraise 5 1 (acons (evar 1) anil)) (xlift snil))
    (xseq (xif (tst (m2 dEqA (evarB 0) (cst (.int 6)))) (xraise 6 0 anil) (xlift snil))
    (xseq (xif (tst (m2 dEqA (evarB 0) (cst (.int 7)))) (xraise 7 0 anil) (xlift snil))
    (xraise 8 0 anil)))))))))
    gx_l_caught)
    (sret (evar 2))))
def m_l_caught : Fun3 := defM 4 g_l_caught
theorem ok_l_caught {f : Addr} {fd : FuncData} (F : Fun K "_law_caught" "_law_caught" s_l_caught f fd) (T : Txt P K mg fa cl nm fi) (H_l_kept : PosH P w K mg base 1 (fa 4) fun x1 => Sp3 ⟨K, dk, cl, nm⟩ 2 (mH_l_kept x1)) (H_l_kinds : PosH P w K mg base 1 (fa 5) fun x1 => Sp3 ⟨K, dk, cl, nm⟩ 1 (mH_l_kinds x1)) : FnG P w K mg base 2 f fd ["_law_at", "_law_it"] (Sp3 ⟨K, dk, cl, nm⟩ 2 m_l_caught) := by
  refine fn3 (N := N_l_caught) (ps := ["_law_at", "_law_it"]) (g := g_l_caught) F sc_l_caught fun cdv A outer s H hr hgd => ?_
  have nd : (N_l_caught).Nodup := sc_l_caught.nd
  have hu := hu_of hr
  have hu2 := hr.units
  exact (s3_cons (s3_set 2 nd e3_non)
      (s3_cons (s3_try (M := ⟨K, dk, cl, nm⟩) (i := 3) (h := h_l_caught) (g := gx_l_caught) rfl rfl rfl nd rfl rfl ⟨rfl, by decide, .inl T.x_PassError⟩ (fun W pn xe tk _ =>
      (sx_cons (sx_if (e3_tcmp (op_eqA hu2) (lift_eqA rfl) (e3_varB 0) (pe_b e3_int)) (sx_one (sx_raise1 (M := ⟨K, dk, cl, nm⟩) (c := 0) rfl tk T.kb_BadTransducer T.in_BadTransducer T.x_BadTransducer (room1 hr) (e3a_cons (e3_var 1) e3a_nil) T.n_BadTransducer rfl)) sx_nil)
      (sx_cons (sx_if (e3_tcmp (op_eqA hu2) (lift_eqA rfl) (e3_varB 0) (pe_b e3_int)) (sx_one (sx_raise1 (M := ⟨K, dk, cl, nm⟩) (c := 1) rfl tk T.kb_BadText T.in_BadText T.x_BadText (room1 hr) (e3a_cons (e3_var 1) e3a_nil) T.n_BadText rfl)) sx_nil)
      (sx_cons (sx_if (e3_tcmp (op_eqA hu2) (lift_eqA rfl) (e3_varB 0) (pe_b e3_int)) (sx_one (sx_raise1 (M := ⟨K, dk, cl, nm⟩) (c := 2) rfl tk T.kb_NotFunctional T.in_NotFunctional T.x_NotFunctional (room1 hr) (e3a_cons (e3_var 1) e3a_nil) T.n_NotFunctional rfl)) sx_nil)
      (sx_cons (sx_if (e3_tcmp (op_eqA hu2) (lift_eqA rfl) (e3_varB 0) (pe_b e3_int)) (sx_one (sx_raise1 (M := ⟨K, dk, cl, nm⟩) (c := 3) rfl tk T.kb_Diverges T.in_Diverges T.x_Diverges (room1 hr) (e3a_cons (e3_var 1) e3a_nil) T.n_Diverges rfl)) sx_nil)
      (sx_cons (sx_if (e3_tcmp (op_eqA hu2) (lift_eqA rfl) (e3_varB 0) (pe_b e3_int)) (sx_one (sx_raise1 (M := ⟨K, dk, cl, nm⟩) (c := 4) rfl tk T.kb_BadLetter T.in_BadLetter T.x_BadLetter (room1 hr) (e3a_cons (e3_var 1) e3a_nil) T.n_BadLetter rfl)) sx_nil)
      (sx_cons (sx_if (e3_tcmp (op_eqA hu2) (lift_eqA rfl) (e3_varB 0) (pe_b e3_int)) (sx_one (sx_raise1 (M := ⟨K, dk, cl, nm⟩) (c := 5) rfl tk T.kb_NoOutput T.in_NoOutput T.x_NoOutput (room1 hr) (e3a_cons (e3_var 1) e3a_nil) T.n_NoOutput rfl)) sx_nil)
      (sx_cons (sx_if (e3_tcmp (op_eqA hu2) (lift_eqA rfl) (e3_varB 0) (pe_b e3_int)) (sx_one (sx_raise0 (M := ⟨K, dk, cl, nm⟩) (c := 6) rfl tk T.kb_NothingToUndo T.in_NothingToUndo T.x_NothingToUndo (room1 hr) rfl)) sx_nil)
      (sx_cons (sx_if (e3_tcmp (op_eqA hu2) (lift_eqA rfl) (e3_varB 0) (pe_b e3_int)) (sx_one (sx_raise0 (M := ⟨K, dk, cl, nm⟩) (c := 7) rfl tk T.kb_InvalidCommand T.in_InvalidCommand T.x_InvalidCommand (room1 hr) rfl)) sx_nil)
      (sx_one (sx_raise0 (M := ⟨K, dk, cl, nm⟩) (c := 8) rfl tk T.kb_NoTransducer T.in_NoTransducer T.x_NoTransducer (room1 hr) rfl)))))))))))
      (fun a pn => (s3_one (s3_set 2 nd (e3_lst (e3a_cons (e3_callH (x1 := a) H_l_kinds (roomH_mark ((roomH_of hr).mono (by decide))) hgd rfl rfl T.c_l_kinds T.k_l_kinds (e3a_cons (e3_var 3) e3a_nil)) (e3a_cons (e3_callH (x1 := a) H_l_kept (roomH_mark ((roomH_of hr).mono (by decide))) hgd rfl rfl T.c_l_kept T.k_l_kept (e3a_cons (e3_var 0) (e3a_cons (e3_var 3) e3a_nil))) e3a_nil)))))) (hx_l_caught T))
      (s3_one (s3_ret (e3_var 2)))))
abbrev s_law : Stmt := top 19
abbrev N_law : List Str := ["_law_script", "_law_deck_here", "_law_lot", "_law_at", "_law_turn", "_law_it", "_law_due", "_law_e"]
theorem sc_law : FnScope N_law ["_law_script"] (defScope s_law) := ⟨rfl, rfl, rfl, by decide +kernel, rfl, by decide +kernel, by decide +kernel⟩
def g_law : St3 := (sseq (sasg (mlst (acons (cst (.int 0)) (acons (mneg (cst (.int 1))) (acons (m2 dPow (cst (.int 10)) (cst (.int 39))) (acons (cst (.bl true)) (acons (cst (.bl false)) (acons (cst .non) (acons (cst (.str (Str.ofString ""))) (acons (cst (.str (Str.ofString "moves"))) (acons (m2 dMul (cst (.str (Str.ofString "a"))) (cst (.int 99))) (acons (mtup anil) (acons (mlst anil) (acons (cst (.dic false [])) (acons (mtup (acons (cst (.int 0)) (acons (cst (.int 1)) anil))) (acons (mtup (acons (cst (.str (Str.ofString ""))) (acons (cst (.str (Str.ofString "a"))) anil))) (acons (mlst (acons (mlst anil) anil)) (acons (mdisp [(Str.ofString "a", (cst (.int 1)))]) anil))))))))))))))))) (gn 2))
    (sseq (sfor (irng1 (acons (cst (.int 9)) anil)) (gn 3) (sfor (irng1 (acons (cst (.int 6)) anil)) (gn 4) (sseq (sasg (callM m_l_pick 2 (acons (evar 1) (acons (evar 2) anil))) (gn 5))
    (sseq (sasg (vif (tst (m2 (dCmp fun i j => decide (i < j)) (evarB 3) (cst (.int 6)))) (mlst (acons (evar 5) anil)) (mlst anil)) (gn 6))
    (sseq (sfor (iseq (callM m_l_made 2 (acons (evar 3) (acons (evar 5) anil)))) (gn 7) (sseq (sif (tor (tnot (tst (misx (fun i => isT 9 i 9) (evar 7)))) (tor (tnot (tst (misx (isE 9) (evar 7)))) (tst (m2 dNeA (callM m_l_kinds 1 (acons (evar 7) anil)) (mlst (acons (evar 3) anil)))))) (sret (cst (.bl false))) snil)
    (sif (tst (m2 dNeA (mC dRepr3 (acons (callM m_l_kept 2 (acons (evar 3) (acons (evar 7) anil))) anil)) (mC dRepr3 (acons (evarB 6) anil)))) (sret (cst (.bl false))) snil)))
    (sif (tst (m2 dNeA (mC dRepr3 (acons (callM m_l_caught 2 (acons (evar 3) (acons (evar 5) anil))) anil)) (mC dRepr3 (acons (mlst (acons (mlst (acons (evar 3) anil)) (acons (evar 6) anil))) anil)))) (sret (cst (.bl false))) snil))))))
    (sret (m2 dEqA (callM m_l_kinds 1 (acons (mexc 9 0 anil) anil)) (mlst anil)))))
def m_law : Fun3 := defM 8 g_law
theorem body_law (T : Txt P K mg fa cl nm fi) (G_l_caught : PosG P w K mg base 2 (fa 6) (Sp3 ⟨K, dk, cl, nm⟩ 2 m_l_caught)) (G_l_kept : PosG P w K mg base 1 (fa 4) (Sp3 ⟨K, dk, cl, nm⟩ 2 m_l_kept)) (G_l_kinds : PosG P w K mg base 1 (fa 5) (Sp3 ⟨K, dk, cl, nm⟩ 1 m_l_kinds)) (G_l_made : PosG P w K mg base 1 (fa 3) (Sp3 ⟨K, dk, cl, nm⟩ 2 m_l_made)) (G_l_pick : PosG P w K mg base 2 (fa 2) (Sp3 ⟨K, dk, cl, nm⟩ 2 m_l_pick)) {qual : Str} {f : Addr} {cdv : Value} {A : Around} {outer : List Env} {s : Shared} {H : Hp} (hr : Room 2 (A.deeper (envOfC qual (defScope s_law) s.heap.objs.size f cdv))) (hgd : A.guards = some []) : PSs (cxOf CX0 P w K mg base N_law qual (defScope s_law) f cdv A outer s H E0).nox ((defBody s_law).drop 1) (TS3 ⟨K, dk, cl, nm⟩ g_law) := by
  have nd : (N_law).Nodup := sc_law.nd
  have hu := hu_of hr
  have hu2 := hr.units
  exact (s3_cons (s3_set 2 nd (e3_lst (e3a_cons e3_int (e3a_cons (e3_neg (pe_b e3_int)) (e3a_cons (e3_op op_pow lift_pow (pe_b e3_int) (pe_b e3_int)) (e3a_cons e3_bl (e3a_cons e3_bl (e3a_cons e3_non (e3a_cons e3_str (e3a_cons e3_str (e3a_cons (e3_op op_mulD lift_mul (pe_b e3_str) (pe_b e3_int)) (e3a_cons (e3_tup e3a_nil) (e3a_cons (e3_lst e3a_nil) (e3a_cons e3_dict0 (e3a_cons (e3_tup (e3a_cons e3_int (e3a_cons e3_int e3a_nil))) (e3a_cons (e3_tup (e3a_cons e3_str (e3a_cons e3_str e3a_nil))) (e3a_cons (e3_lst (e3a_cons (e3_lst e3a_nil) e3a_nil)) (e3a_cons (e3_disp (ps := [(Str.ofString "a", (cst (.int 1)))]) (pps_cons pe_str e3_int pps_nil)) e3a_nil))))))))))))))))))
      (s3_cons (s3_for PassesOwn.never rfl (i3_rng1 rfl T.b_range (e3a_cons e3_int e3a_nil)) (g3_name 3 nd) (s3_one (s3_for PassesOwn.never rfl (i3_rng1 rfl T.b_range (e3a_cons e3_int e3a_nil)) (g3_name 4 nd) (s3_cons (s3_set 5 nd (e3_call G_l_pick (hr.mono (by decide)) hgd rfl T.c_l_pick T.k_l_pick (e3a_cons (e3_var 1) (e3a_cons (e3_var 2) e3a_nil))))
      (s3_cons (s3_set 6 nd (e3_if (e3_tcmp op_lt lift_cmp (e3_varB 3) (pe_b e3_int)) (e3_lst (e3a_cons (e3_var 5) e3a_nil)) (e3_lst e3a_nil)))
      (s3_cons (s3_for PassesOwn.never rfl (i3_lst (e3_call G_l_made (hr.mono (by decide)) hgd rfl T.c_l_made T.k_l_made (e3a_cons (e3_var 3) (e3a_cons (e3_var 5) e3a_nil)))) (g3_name 7 nd) (s3_cons (s3_if (PW.pt (e3_or (e3_not (e3_tst (e3_isx (M := ⟨K, dk, cl, nm⟩) (f := fun i => isT 9 i 9) rfl T.b_isinstance (pe_glob (v := .ref (cl 9)) rfl T.x_PassError rfl) (.own _) (fun c b h => T.kt c 9 b h) (e3_var 7)))) (e3_or (e3_not (e3_tst (e3_isx (M := ⟨K, dk, cl, nm⟩) (f := isE 9) rfl T.b_isinstance (pe_bltn (v := .ty "Exception") rfl T.b_Exception boot_Exception rfl) (.ty _) (fun c b h => T.ke c b h) (e3_var 7)))) (e3_or1 (e3_tcmp (op_neA hu2) (lift_neA rfl) (pe_b (e3_call G_l_kinds (hr.mono (by decide)) hgd rfl T.c_l_kinds T.k_l_kinds (e3a_cons (e3_var 7) e3a_nil))) (pe_b (e3_lst (e3a_cons (e3_var 3) e3a_nil)))))))) (s3_one (s3_ret e3_bl)) s3_nil)
      (s3_one (s3_if (e3_tcmp (op_neA hu2) (lift_neA rfl) (pe_b (e3_callB (lift_repr2 (M := ⟨K, dk, cl, nm⟩) rfl hgd hu2) (lift_repr3 rfl) rfl T.b_repr rfl (e3ab_cons (pe_b (e3_call G_l_kept (hr.mono (by decide)) hgd rfl T.c_l_kept T.k_l_kept (e3a_cons (e3_var 3) (e3a_cons (e3_var 7) e3a_nil)))) e3ab_nil))) (pe_b (e3_callB (lift_repr2 (M := ⟨K, dk, cl, nm⟩) rfl hgd hu2) (lift_repr3 rfl) rfl T.b_repr rfl (e3ab_cons (e3_varB 6) e3ab_nil)))) (s3_one (s3_ret e3_bl)) s3_nil))))
      (s3_one (s3_if (e3_tcmp (op_neA hu2) (lift_neA rfl) (pe_b (e3_callB (lift_repr2 (M := ⟨K, dk, cl, nm⟩) rfl hgd hu2) (lift_repr3 rfl) rfl T.b_repr rfl (e3ab_cons (pe_b (e3_call G_l_caught (hr.mono (by decide)) hgd rfl T.c_l_caught T.k_l_caught (e3a_cons (e3_var 3) (e3a_cons (e3_var 5) e3a_nil)))) e3ab_nil))) (pe_b (e3_callB (lift_repr2 (M := ⟨K, dk, cl, nm⟩) rfl hgd hu2) (lift_repr3 rfl) rfl T.b_repr rfl (e3ab_cons (pe_b (e3_lst (e3a_cons (e3_lst (e3a_cons (e3_var 3) e3a_nil)) (e3a_cons (e3_var 6) e3a_nil)))) e3ab_nil)))) (s3_one (s3_ret e3_bl)) s3_nil))))))))
      (s3_one (s3_ret (e3_cmp (op_eqA hu2) (lift_eqA rfl) (pe_b (e3_call G_l_kinds (hr.mono (by decide)) hgd rfl T.c_l_kinds T.k_l_kinds (e3a_cons (e3_excP (M := ⟨K, dk, cl, nm⟩) (c := 9) PySem.F.excBase_Exception T.px T.x_PassError T.pk (T.pr rfl) rfl) e3a_nil))) (pe_b (e3_lst e3a_nil)))))))
end
end K01

set_option Elab.async false
set_option linter.all false
set_option maxRecDepth 100000
set_option maxHeartbeats 400000
/-! K01L: the law of k01 in plain Lean: True for every deck. -/
namespace K01
open PySem PySem.Spec PyProof.Rows L2 L3
/-- the attributes of an exception of the class c, made with d -/
def at1 (c : Nat) (d : D) : List D := if c < 6 then [d] else []
theorem nine {P : Nat → Prop} (h : P 0 ∧ P 1 ∧ P 2 ∧ P 3 ∧ P 4 ∧ P 5 ∧ P 6 ∧ P 7 ∧ P 8) (c : Nat) (hc : c < 9) : P c := by
  rcases (by omega : c = 0 ∨ c = 1 ∨ c = 2 ∨ c = 3 ∨ c = 4 ∨ c = 5 ∨ c = 6 ∨ c = 7 ∨ c = 8) with rfl | rfl | rfl | rfl | rfl | rfl | rfl | rfl | rfl
  · exact h.1
  · exact h.2.1
  · exact h.2.2.1
  · exact h.2.2.2.1
  · exact h.2.2.2.2.1
  · exact h.2.2.2.2.2.1
  · exact h.2.2.2.2.2.2.1
  · exact h.2.2.2.2.2.2.2.1
  · exact h.2.2.2.2.2.2.2.2
theorem made_eq (d : D) (w : Wd) : ∀ c : Nat, c < 9 → m_l_made [.int c, d] w = .ok (.lst [.exc c none (at1 c d), .exc c none (at1 c d)]) w := nine ⟨rfl, rfl, rfl, rfl, rfl, rfl, rfl, rfl, rfl⟩
theorem kinds_eq (ds : List D) (w : Wd) : ∀ c : Nat, c < 9 → m_l_kinds [.exc c none ds] w = .ok (.lst [.int c]) w := nine ⟨rfl, rfl, rfl, rfl, rfl, rfl, rfl, rfl, rfl⟩
theorem kinds9 (w : Wd) : m_l_kinds [.exc 9 none []] w = .ok (.lst []) w := rfl
theorem kept_eq (d : D) (w : Wd) : ∀ c : Nat, c < 9 → m_l_kept [.int c, .exc c none (at1 c d)] w = .ok (.lst (at1 c d)) w := nine ⟨rfl, rfl, rfl, rfl, rfl, rfl, rfl, rfl, rfl⟩
theorem caught_eq (d : D) (w : Wd) : ∀ c : Nat, c < 9 → m_l_caught [.int c, d] w = .ok (.lst [.lst [.int c], .lst (at1 c d)]) w := nine ⟨rfl, rfl, rfl, rfl, rfl, rfl, rfl, rfl, rfl⟩
def lotL : List D := [.int 0, .int (-1), .int (10 ^ 39), .bl true, .bl false, .non, .str (Str.ofString ""), .str (Str.ofString "moves"), .str ⟨(List.replicate 99 (Str.ofString "a").cps).foldl (· ++ ·) #[]⟩, .tup [], .lst [], .dic false [],
  .tup [.int 0, .int 1], .tup [.str (Str.ofString ""), .str (Str.ofString "a")], .lst [.lst []], .dic false [(.str (Str.ofString "a"), .int 1)]]
def isStr : Option D → Bool
  | some (.str _) => true
  | _ => false
theorem of_isStr {o : Option D} (h : isStr o = true) : ∃ z, o = some (.str z) := by
  unfold isStr at h
  split at h
  · exact ⟨_, rfl⟩
  · cases h
theorem rep1 : (lotL.all fun d => (List.range 9).all fun c => isStr (dRepr3 [.lst (at1 c d)]) && isStr (dRepr3 [.lst [.lst [.int c], .lst (at1 c d)]])) = true := by decide +kernel

theorem rep_of {d : D} (hd : d ∈ lotL) (c : Nat) (hc : c < 9) : (∃ z, dRepr3 [.lst (at1 c d)] = some (.str z)) ∧ ∃ z, dRepr3 [.lst [.lst [.int c], .lst (at1 c d)]] = some (.str z) := by
  have h := List.all_eq_true.mp rep1 d hd
  have h2 := List.all_eq_true.mp h c (List.mem_range.mpr hc)
  rw [Bool.and_eq_true] at h2
  exact ⟨of_isStr h2.1, of_isStr h2.2⟩
theorem ok_eq {r : R3 D} {d : D} {w : Wd} {P : D → Wd → Prop} (e : r = .ok d w) (p : P d w) : Ok r P := by rw [e]; exact p
theorem ok_eqB {r : R3 Bool} {d : Bool} {w : Wd} {P : Bool → Wd → Prop} (e : r = .ok d w) (p : P d w) : Ok r P := by rw [e]; exact p
theorem ne_self {z : Str} : dNeA (.str z) (.str z) = some (.bl false) := by
  unfold dNeA
  simp
def gC1 : M3 Bool := (tor (tnot (tst (misx (fun i => isT 9 i 9) (evar 7)))) (tor (tnot (tst (misx (isE 9) (evar 7)))) (tst (m2 dNeA (callM m_l_kinds 1 (acons (evar 7) anil)) (mlst (acons (evar 3) anil))))))
def gC2 : M3 Bool := (tst (m2 dNeA (mC dRepr3 (acons (callM m_l_kept 2 (acons (evar 3) (acons (evar 7) anil))) anil)) (mC dRepr3 (acons (evarB 6) anil))))
def gC3 : M3 Bool := (tst (m2 dNeA (mC dRepr3 (acons (callM m_l_caught 2 (acons (evar 3) (acons (evar 5) anil))) anil)) (mC dRepr3 (acons (mlst (acons (mlst (acons (evar 3) anil)) (acons (evar 6) anil))) anil))))
def gDue : M3 D := (vif (tst (m2 (dCmp fun i j => decide (i < j)) (evarB 3) (cst (.int 6)))) (mlst (acons (evar 5) anil)) (mlst anil))
def gI : St3 := (sseq (sasg gDue (gn 6))
    (sseq (sfor (iseq (callM m_l_made 2 (acons (evar 3) (acons (evar 5) anil)))) (gn 7) (sseq (sif gC1 (sret (cst (.bl false))) snil) (sif gC2 (sret (cst (.bl false))) snil)))
    (sif gC3 (sret (cst (.bl false))) snil)))
/-- the frame in the loops -/
def fr (c : Nat) (t o5 o6 o7 : Option (Bool × D)) : Env3 := [none, some (false, .deck), some (false, .lst lotL), some (false, .int c), t, o5, o6, o7]
theorem due_eq (t o6 o7 : Option (Bool × D)) (d : D) (w : Wd) : ∀ c : Nat, c < 9 → gDue (fr c t (some (false, d)) o6 o7) w = .ok (.lst (at1 c d)) w := nine ⟨rfl, rfl, rfl, rfl, rfl, rfl, rfl, rfl, rfl⟩
theorem c1_eq (t o5 o6 : Option (Bool × D)) (ds : List D) (w : Wd) : ∀ c : Nat, c < 9 → gC1 (fr c t o5 o6 (some (false, .exc c none ds))) w = .ok false w := nine ⟨rfl, rfl, rfl, rfl, rfl, rfl, rfl, rfl, rfl⟩
theorem inner_ok {c : Nat} (hc : c < 9) {d : D} (hd : d ∈ lotL) {w : Wd} {t o6 o7 : Option (Bool × D)} : Sx (gI (fr c t (some (false, d)) o6 o7) w) (fun e w' => w' = w ∧ ∃ o6 o7, e = fr c t (some (false, d)) o6 o7) no2 no2 fun _ _ => False := by
  obtain ⟨⟨z1, e1⟩, z2, e2⟩ := rep_of hd c hc
  unfold gI
  refine wp_sseq.mpr (wp_set.mpr (ok_eq (due_eq t o6 o7 d w c hc) ⟨by simp [fr], ?_⟩))
  show Sx (sseq _ _ (fr c t (some (false, d)) (some (false, .lst (at1 c d))) o7) w) _ _ _ _
  refine wp_sseq.mpr (wp_sfor.mpr (wp_iseq.mpr (wp_callM.mpr ?_)))
  refine wp_acons.mpr (wp_evar.mpr ⟨_, rfl, wp_acons.mpr (wp_evar.mpr ⟨_, rfl, wp_anil.mpr ⟨rfl, ok_eq (made_eq d w c hc) ⟨_, rfl, ?_⟩⟩⟩)⟩)
  refine for_inv (fun _ e w' => w' = w ∧ ∃ o7, e = fr c t (some (false, d)) (some (false, .lst (at1 c d))) o7) ⟨rfl, o7, rfl⟩ ?_ ?_
  · rintro pre post x e w' eq ⟨rfl, o, rfl⟩
    have hx : x = .exc c none (at1 c d) := by
      have hm : x ∈ [D.exc c none (at1 c d), .exc c none (at1 c d)] := by rw [eq]; simp
      simpa using hm
    subst hx
    refine ⟨fr c t (some (false, d)) (some (false, .lst (at1 c d))) (some (false, .exc c none (at1 c d))), rfl, ?_⟩
    refine wp_sseq.mpr (wp_sif.mpr (ok_eqB (c1_eq t _ _ _ w' c hc) ⟨fun h => absurd h (by decide), fun _ => wp_snil.mpr ?_⟩))
    refine wp_sif.mpr ?_
    unfold gC2
    refine wp_tst.mpr (wp_m2.mpr (wp_mC.mpr (wp_acons.mpr (wp_callM.mpr ?_))))
    refine wp_acons.mpr (wp_evar.mpr ⟨.int c, rfl, ?_⟩)
    refine wp_acons.mpr (wp_evar.mpr ⟨.exc c none (at1 c d), rfl, ?_⟩)
    refine wp_anil.mpr ⟨rfl, ok_eq (kept_eq d w' c hc) ?_⟩
    refine wp_anil.mpr ⟨_, e1, ?_⟩
    refine wp_mC.mpr (wp_acons.mpr (wp_evarB.mpr ⟨_, _, rfl, ?_⟩))
    exact wp_anil.mpr ⟨_, e1, _, ne_self, _, rfl, fun h => absurd h (by decide), fun _ => wp_snil.mpr ⟨rfl, _, rfl⟩⟩
  · rintro e w' ⟨rfl, o, rfl⟩
    refine wp_sif.mpr ?_
    unfold gC3
    refine wp_tst.mpr (wp_m2.mpr (wp_mC.mpr (wp_acons.mpr (wp_callM.mpr ?_))))
    refine wp_acons.mpr (wp_evar.mpr ⟨.int c, rfl, ?_⟩)
    refine wp_acons.mpr (wp_evar.mpr ⟨d, rfl, ?_⟩)
    refine wp_anil.mpr ⟨rfl, ok_eq (caught_eq d w' c hc) ?_⟩
    refine wp_anil.mpr ⟨_, e2, ?_⟩
    refine wp_mC.mpr (wp_acons.mpr (wp_mlst.mpr (wp_acons.mpr (wp_mlst.mpr (wp_acons.mpr (wp_evar.mpr ⟨.int c, rfl, ?_⟩))))))
    refine wp_anil.mpr ⟨by (exact Nat.le_of_ble_eq_true rfl), ?_⟩
    refine wp_acons.mpr (wp_evar.mpr ⟨.lst (at1 c d), rfl, ?_⟩)
    refine wp_anil.mpr ⟨by (exact Nat.le_of_ble_eq_true rfl), ?_⟩
    exact wp_anil.mpr ⟨_, e2, _, ne_self, _, rfl, fun h => absurd h (by decide), fun _ => wp_snil.mpr ⟨rfl, _, _, rfl⟩⟩
def gLot : M3 D := (mlst (acons (cst (.int 0)) (acons (mneg (cst (.int 1))) (acons (m2 dPow (cst (.int 10)) (cst (.int 39))) (acons (cst (.bl true)) (acons (cst (.bl false)) (acons (cst .non) (acons (cst (.str (Str.ofString ""))) (acons (cst (.str (Str.ofString "moves"))) (acons (m2 dMul (cst (.str (Str.ofString "a"))) (cst (.int 99))) (acons (mtup anil) (acons (mlst anil) (acons (cst (.dic false [])) (acons (mtup (acons (cst (.int 0)) (acons (cst (.int 1)) anil))) (acons (mtup (acons (cst (.str (Str.ofString ""))) (acons (cst (.str (Str.ofString "a"))) anil))) (acons (mlst (acons (mlst anil) anil)) (acons (mdisp [(Str.ofString "a", (cst (.int 1)))]) anil)))))))))))))))))
theorem lot_eq (e : Env3) (w : Wd) : gLot e w = .ok (.lst lotL) w := by rfl
def gPickS : St3 := sasg (callM m_l_pick 2 (acons (evar 1) (acons (evar 2) anil))) (gn 5)
theorem g_law_eq : g_law = sseq (sasg gLot (gn 2)) (sseq (sfor (irng1 (acons (cst (.int 9)) anil)) (gn 3) (sfor (irng1 (acons (cst (.int 6)) anil)) (gn 4) (sseq gPickS gI))) (sret (m2 dEqA (callM m_l_kinds 1 (acons (mexc 9 0 anil) anil)) (mlst anil)))) := rfl
theorem pick_eq : m_l_pick = mPick 60271 11 58 := rfl
theorem pick_ok {n : Nat} {c : Nat} {t o5 o6 o7 : Option (Bool × D)} {w : Wd} {N : Env3 → Wd → Prop} (g : Good (n + 1) w) (h : ∀ d w', d ∈ lotL → Good n w' → N (fr c t (some (false, d)) o6 o7) w') : Sx (gPickS (fr c t o5 o6 o7) w) N no2 no2 fun _ _ => False := by
  unfold gPickS
  refine wp_set.mpr (wp_callM.mpr ?_)
  refine wp_acons.mpr (wp_evar.mpr ⟨.deck, rfl, ?_⟩)
  refine wp_acons.mpr (wp_evar.mpr ⟨.lst lotL, rfl, ?_⟩)
  refine wp_anil.mpr ⟨rfl, ?_⟩
  rw [pick_eq]
  exact pick_lst (by decide) (by decide) (by show 0 < 16; decide) (by show 16 < 1073741824; decide) g fun d w' hd g' => ⟨by simp [fr], h d w' hd g'⟩
theorem law_ok {w0 : Wd} (h : w0.new) : Sx (g_law (none :: some (false, .deck) :: List.replicate 6 none) w0) no2 no2 no2 fun d _ => d = .bl true := by
  rw [g_law_eq]
  refine wp_sseq.mpr (wp_set.mpr (ok_eq (lot_eq _ _) ⟨by simp, wp_sseq.mpr (wp_sfor.mpr ?_)⟩))
  refine wp_irng1.mpr (wp_acons.mpr (wp_cst.mpr (wp_anil.mpr ⟨9, rfl, by decide, by decide, ?_⟩)))
  refine for_inv (fun pre e w => pre.length ≤ 9 ∧ Good (6 * (9 - pre.length)) w ∧ ∃ o3 o4 o5 o6 o7, e = [none, some (false, .deck), some (false, .lst lotL), o3, o4, o5, o6, o7]) ⟨Nat.zero_le _, h.good (by decide), none, none, none, none, none, rfl⟩ ?_ ?_
  · rintro pre post d e w eq ⟨h1, g, o3, o4, o5, o6, o7, rfl⟩
    have hl := congrArg List.length eq
    rw [List.length_append, List.length_cons, List.length_map, List.length_range] at hl
    have e9 : (9 : Int).toNat = 9 := rfl
    have hp : pre.length + 1 ≤ 9 := by omega
    obtain ⟨c, hc, rfl⟩ : ∃ c : Nat, c < 9 ∧ d = .int c := by
      have hm : d ∈ (List.range (9 : Int).toNat).map fun i : Nat => D.int i := by rw [eq]; simp
      obtain ⟨c, hc, rfl⟩ := List.mem_map.mp hm
      exact ⟨c, List.mem_range.mp hc, rfl⟩
    refine ⟨fr c o4 o5 o6 o7, rfl, wp_sfor.mpr (wp_irng1.mpr (wp_acons.mpr (wp_cst.mpr (wp_anil.mpr ⟨6, rfl, by decide, by decide, ?_⟩))))⟩
    refine for_inv (fun pre2 e w => pre2.length ≤ 6 ∧ Good (6 * (9 - (pre.length + 1)) + (6 - pre2.length)) w ∧ ∃ o4 o5 o6 o7, e = fr c o4 o5 o6 o7) ⟨Nat.zero_le _, g.mono (by simp only [List.length_nil]; omega), o4, o5, o6, o7, rfl⟩ ?_ ?_
    · rintro pre2 post2 d2 e w eq2 ⟨h2, g2, o4, o5, o6, o7, rfl⟩
      have hl2 := congrArg List.length eq2
      rw [List.length_append, List.length_cons, List.length_map, List.length_range] at hl2
      have e6 : (6 : Int).toNat = 6 := rfl
      have hp2 : pre2.length + 1 ≤ 6 := by omega
      refine ⟨fr c (some (false, d2)) o5 o6 o7, rfl, wp_sseq.mpr ?_⟩
      have gg : Good ((6 * (9 - (pre.length + 1)) + (6 - (pre2.length + 1))) + 1) w := g2.mono (by omega)
      refine (pick_ok gg fun it w' hit g' => (inner_ok hc hit).mono ?_ (fun _ _ z => z.elim) (fun _ _ z => z.elim) (fun _ _ z => z.elim)).mono (fun _ _ z => z) (fun _ _ z => z.elim) (fun _ _ z => z.elim) (fun _ _ z => z.elim)
      rintro e w2 ⟨rfl, p6, p7, rfl⟩
      rw [List.length_append]
      exact ⟨hp2, g', _, _, _, _, rfl⟩
    · rintro e w ⟨h2, g2, o4, o5, o6, o7, rfl⟩
      rw [List.length_append]
      exact ⟨hp, g2.mono (by rw [List.length_cons, List.length_nil]; omega), _, _, _, _, _, rfl⟩
  · rintro e w ⟨h1, g, o3, o4, o5, o6, o7, rfl⟩
    refine wp_sret.mpr ?_
    exact ok_eq (d := .bl true) (w := w) rfl rfl
theorem law_plain (w0 : Wd) (h : w0.new) : ∃ w1, g_law (none :: some (false, .deck) :: List.replicate 6 none) w0 = .ret (.bl true) w1 := by
  have q := law_ok h
  cases e : g_law (none :: some (false, .deck) :: List.replicate 6 none) w0 with
  | ret d w => rw [e] at q; exact ⟨w, by rw [show d = .bl true from q]⟩
  | _ => rw [e] at q; exact q.elim
theorem deck_plain (ns : List Int) (w0 : Wd) (h : ns.length ≤ 63) : ∃ (w : Wd) (env : Env3), w.new ∧ g_l_deck [none, some (false, .lst (ns.map D.int)), some (false, .int 10858011), none] w0 = .nx env w0 ∧ f_l_deck env w0 = .ok (deckD w) w0 := deck_made (c3 := 58) (by decide) (by decide) ns w0 h
end K01

set_option Elab.async false
set_option linter.all false
set_option maxRecDepth 100000
set_option maxHeartbeats 4000000
/-! K01E: the facts of the top, and the row's theorem. -/
namespace K01
open PySem PySem.Spec PyProof.Rows L2 L3
theorem all_mk {l : PySem.W.OpenLaw} {w : World} {K : PySem.W.Frag} {h : Heap} {mg : Str → Option Value} {fa : Addr} (X : K.In h) (G : h.Ns mainGlobals mg) (hfa : mg "law" = some (.ref fa))
    {f0 f1 f2 f3 f4 f5 f6 f7 : Addr} {od0 an0 od1 an1 od2 an2 od3 an3 od4 an4 od5 an5 od6 an6 od7 an7 : Option Addr} {sl0 sl1 sl2 sl3 sl4 sl5 sl6 sl7 : Array (Option Value)} {oc0 kV0 dc0 pm0 cd0 ct0 oc1 kV1 dc1 pm1 cd1 ct1 oc2 kV2 dc2 pm2 cd2 ct2 oc3 kV3 dc3 pm3 cd3 ct3 oc4 kV4 dc4 pm4 cd4 ct4 oc5 kV5 dc5 pm5 cd5 ct5 oc6 kV6 dc6 pm6 cd6 ct6 oc7 kV7 dc7 pm7 cd7 ct7 : Value}
    {C0 C1 C2 C3 C4 C5 C6 C7 C8 C9 I0 cc0 ca0 xN0 xP0 I1 cc1 ca1 xN1 xP1 I2 cc2 ca2 xN2 xP2 I3 cc3 ca3 xN3 xP3 I4 cc4 ca4 xN4 xP4 I5 cc5 ca5 xN5 xP5 I6 cc6 ca6 xN6 xP6 I7 cc7 ca7 xN7 xP7 I8 cc8 ca8 xN8 xP8 : Addr} {xoc0 xkV0 xdc0 xpm0 xct0 xcc0 xlc0 xoc1 xkV1 xdc1 xpm1 xct1 xcc1 xlc1 xoc2 xkV2 xdc2 xpm2 xct2 xcc2 xlc2 xoc3 xkV3 xdc3 xpm3 xct3 xcc3 xlc3 xoc4 xkV4 xdc4 xpm4 xct4 xcc4 xlc4 xoc5 xkV5 xdc5 xpm5 xct5 xcc5 xlc5 xoc6 xkV6 xdc6 xpm6 xct6 xcc6 xlc6 xoc7 xkV7 xdc7 xpm7 xct7 xcc7 xlc7 xoc8 xkV8 xdc8 xpm8 xct8 xcc8 xlc8 : Value} {xdd0 xod0 xan0 xcd0 xld0 xdd1 xod1 xan1 xcd1 xld1 xdd2 xod2 xan2 xcd2 xld2 xdd3 xod3 xan3 xcd3 xld3 xdd4 xod4 xan4 xcd4 xld4 xdd5 xod5 xan5 xcd5 xld5 xdd6 xod6 xan6 xcd6 xld6 xdd7 xod7 xan7 xcd7 xld7 xdd8 xod8 xan8 xcd8 xld8 : Option Addr} {xsl0 xcs0 xls0 xsl1 xcs1 xls1 xsl2 xcs2 xls2 xsl3 xcs3 xls3 xsl4 xcs4 xls4 xsl5 xcs5 xls5 xsl6 xcs6 xls6 xsl7 xcs7 xls7 xsl8 xcs8 xls8 : Array (Option Value)} {xvs0 xvs1 xvs2 xvs3 xvs4 xvs5 xvs6 xvs7 xvs8 : Array Value} {x0_0 x1_0 x2_0 x3_0 x5_0 x0_1 x1_1 x2_1 x3_1 x5_1 x0_2 x1_2 x2_2 x3_2 x5_2 x0_3 x1_3 x2_3 x3_3 x5_3 x0_4 x1_4 x2_4 x3_4 x5_4 x0_5 x1_5 x2_5 x3_5 x5_5 x0_6 x1_6 x2_6 x3_6 x5_6 x0_7 x1_7 x2_7 x3_7 x5_7 x0_8 x1_8 x2_8 x3_8 x5_8 : Option Value} {xnm0 xq0 xnm1 xq1 xnm2 xq2 xnm3 xq3 xnm4 xq4 xnm5 xq5 xnm6 xq6 xnm7 xq7 xnm8 xq8 : Str} {xbs0 xsb0 xbs1 xsb1 xbs2 xsb2 xbs3 xsb3 xbs4 xsb4 xbs5 xsb5 xbs6 xsb6 xbs7 xsb7 xbs8 xsb8 : List Value} {xsn0 xsn1 xsn2 xsn3 xsn4 xsn5 xsn6 xsn7 xsn8 : List Str} {xab0 xab1 xab2 xab3 xab4 xab5 xab6 xab7 xab8 : Bool} {xco0 xco1 xco2 xco3 xco4 xco5 xco6 xco7 xco8 : Option Bool} {xtf0 xtf1 xtf2 xtf3 xtf4 xtf5 xtf6 xtf7 xtf8 : Tok}
    (a0 : PySem.W.nsIn K mainGlobals "_law_deck" = some (some (.ref f0))) (l0 : K.lookup f0 = some ⟨oc0, od0, .func (PySem.W.fnOf "_law_deck" "_law_deck" (defArgs s_l_deck) (defBody s_l_deck) (defScope s_l_deck) .none kV0 dc0 pm0 an0 cd0 ct0), sl0⟩) (c0 : PySem.W.codeIn K cd0 "_law_deck" = true) (k0 : PySem.W.keepIn K (.ref f0) = true)
    (a1 : PySem.W.nsIn K mainGlobals "_law_draw" = some (some (.ref f1))) (l1 : K.lookup f1 = some ⟨oc1, od1, .func (PySem.W.fnOf "_law_draw" "_law_draw" (defArgs s_l_draw) (defBody s_l_draw) (defScope s_l_draw) .none kV1 dc1 pm1 an1 cd1 ct1), sl1⟩) (c1 : PySem.W.codeIn K cd1 "_law_draw" = true) (k1 : PySem.W.keepIn K (.ref f1) = true)
    (a3 : PySem.W.nsIn K mainGlobals "_law_made" = some (some (.ref f3))) (l3 : K.lookup f3 = some ⟨oc3, od3, .func (PySem.W.fnOf "_law_made" "_law_made" (defArgs s_l_made) (defBody s_l_made) (defScope s_l_made) .none kV3 dc3 pm3 an3 cd3 ct3), sl3⟩) (c3 : PySem.W.codeIn K cd3 "_law_made" = true) (k3 : PySem.W.keepIn K (.ref f3) = true)
    (a4 : PySem.W.nsIn K mainGlobals "_law_kept" = some (some (.ref f4))) (l4 : K.lookup f4 = some ⟨oc4, od4, .func (PySem.W.fnOf "_law_kept" "_law_kept" (defArgs s_l_kept) (defBody s_l_kept) (defScope s_l_kept) .none kV4 dc4 pm4 an4 cd4 ct4), sl4⟩) (c4 : PySem.W.codeIn K cd4 "_law_kept" = true) (k4 : PySem.W.keepIn K (.ref f4) = true)
    (a5 : PySem.W.nsIn K mainGlobals "_law_kinds" = some (some (.ref f5))) (l5 : K.lookup f5 = some ⟨oc5, od5, .func (PySem.W.fnOf "_law_kinds" "_law_kinds" (defArgs s_l_kinds) (defBody s_l_kinds) (defScope s_l_kinds) .none kV5 dc5 pm5 an5 cd5 ct5), sl5⟩) (c5 : PySem.W.codeIn K cd5 "_law_kinds" = true) (k5 : PySem.W.keepIn K (.ref f5) = true)
    (a2 : PySem.W.nsIn K mainGlobals "_law_pick" = some (some (.ref f2))) (l2 : K.lookup f2 = some ⟨oc2, od2, .func (PySem.W.fnOf "_law_pick" "_law_pick" (defArgs s_l_pick) (defBody s_l_pick) (defScope s_l_pick) .none kV2 dc2 pm2 an2 cd2 ct2), sl2⟩) (c2 : PySem.W.codeIn K cd2 "_law_pick" = true) (k2 : PySem.W.keepIn K (.ref f2) = true)
    (a6 : PySem.W.nsIn K mainGlobals "_law_caught" = some (some (.ref f6))) (l6 : K.lookup f6 = some ⟨oc6, od6, .func (PySem.W.fnOf "_law_caught" "_law_caught" (defArgs s_l_caught) (defBody s_l_caught) (defScope s_l_caught) .none kV6 dc6 pm6 an6 cd6 ct6), sl6⟩) (c6 : PySem.W.codeIn K cd6 "_law_caught" = true) (k6 : PySem.W.keepIn K (.ref f6) = true)
    (a7 : PySem.W.nsIn K mainGlobals "law" = some (some (.ref f7))) (l7 : K.lookup f7 = some ⟨oc7, od7, .func (PySem.W.fnOf "law" "law" (defArgs s_law) (defBody s_law) (defScope s_law) .none kV7 dc7 pm7 an7 cd7 ct7), sl7⟩) (c7 : PySem.W.codeIn K cd7 "law" = true) (k7 : PySem.W.keepIn K (.ref f7) = true)
    (z_Exception : PySem.W.nsIn K mainGlobals "Exception" = some none)
    (z_int : PySem.W.nsIn K mainGlobals "int" = some none)
    (z_isinstance : PySem.W.nsIn K mainGlobals "isinstance" = some none)
    (z_len : PySem.W.nsIn K mainGlobals "len" = some none)
    (z_list : PySem.W.nsIn K mainGlobals "list" = some none)
    (z_range : PySem.W.nsIn K mainGlobals "range" = some none)
    (z_repr : PySem.W.nsIn K mainGlobals "repr" = some none)
    (xsup : PySem.W.nsIn K mainGlobals "super" = some none)
    (xany : PySem.W.nsIn K PySem.cStatics "thirdparty.any" = some none)
    (xtop : (l.prog.main.scope.names.lookup ("super" : Str)).isSome = false)
    (xdg : PySem.W.specialIn K (.builtin "object.__class__") "__get__" = some (some (.builtin "getset_descriptor.__get__")))
    (xtk : PySem.W.takesIn K (.builtin "object.__class__") = some true)
    (xg0 : PySem.W.nsIn K mainGlobals "BadTransducer" = some (some (.ref C0)))
    (xk0 : PySem.W.keepIn K (.ref C0) = true)
    (xb0 : PySem.W.subIn K (.ref C0) (.type "BaseException") = some true)
    (xy0 : PySem.W.typeIn K (.ref C0) = some (.type "type"))
    (xga0 : PySem.W.findIn K (.ref C0) "__getattribute__" = some (some (.builtin "BaseException.__getattribute__")))
    (xgg0 : PySem.W.findIn K (.ref C0) "__getattr__" = some none)
    (xhd0 : PySem.W.hasDictIn K C0 = true)
    (xac0 : PySem.W.findIn K (.ref C0) "__class__" = some (some (.builtin "object.__class__")))
    (xmo0 : PySem.W.mroIn K C0 (.type "object") = some true)
    (xg1 : PySem.W.nsIn K mainGlobals "BadText" = some (some (.ref C1)))
    (xk1 : PySem.W.keepIn K (.ref C1) = true)
    (xb1 : PySem.W.subIn K (.ref C1) (.type "BaseException") = some true)
    (xy1 : PySem.W.typeIn K (.ref C1) = some (.type "type"))
    (xga1 : PySem.W.findIn K (.ref C1) "__getattribute__" = some (some (.builtin "BaseException.__getattribute__")))
    (xgg1 : PySem.W.findIn K (.ref C1) "__getattr__" = some none)
    (xhd1 : PySem.W.hasDictIn K C1 = true)
    (xac1 : PySem.W.findIn K (.ref C1) "__class__" = some (some (.builtin "object.__class__")))
    (xmo1 : PySem.W.mroIn K C1 (.type "object") = some true)
    (xg2 : PySem.W.nsIn K mainGlobals "NotFunctional" = some (some (.ref C2)))
    (xk2 : PySem.W.keepIn K (.ref C2) = true)
    (xb2 : PySem.W.subIn K (.ref C2) (.type "BaseException") = some true)
    (xy2 : PySem.W.typeIn K (.ref C2) = some (.type "type"))
    (xga2 : PySem.W.findIn K (.ref C2) "__getattribute__" = some (some (.builtin "BaseException.__getattribute__")))
    (xgg2 : PySem.W.findIn K (.ref C2) "__getattr__" = some none)
    (xhd2 : PySem.W.hasDictIn K C2 = true)
    (xac2 : PySem.W.findIn K (.ref C2) "__class__" = some (some (.builtin "object.__class__")))
    (xmo2 : PySem.W.mroIn K C2 (.type "object") = some true)
    (xg3 : PySem.W.nsIn K mainGlobals "Diverges" = some (some (.ref C3)))
    (xk3 : PySem.W.keepIn K (.ref C3) = true)
    (xb3 : PySem.W.subIn K (.ref C3) (.type "BaseException") = some true)
    (xy3 : PySem.W.typeIn K (.ref C3) = some (.type "type"))
    (xga3 : PySem.W.findIn K (.ref C3) "__getattribute__" = some (some (.builtin "BaseException.__getattribute__")))
    (xgg3 : PySem.W.findIn K (.ref C3) "__getattr__" = some none)
    (xhd3 : PySem.W.hasDictIn K C3 = true)
    (xac3 : PySem.W.findIn K (.ref C3) "__class__" = some (some (.builtin "object.__class__")))
    (xmo3 : PySem.W.mroIn K C3 (.type "object") = some true)
    (xg4 : PySem.W.nsIn K mainGlobals "BadLetter" = some (some (.ref C4)))
    (xk4 : PySem.W.keepIn K (.ref C4) = true)
    (xb4 : PySem.W.subIn K (.ref C4) (.type "BaseException") = some true)
    (xy4 : PySem.W.typeIn K (.ref C4) = some (.type "type"))
    (xga4 : PySem.W.findIn K (.ref C4) "__getattribute__" = some (some (.builtin "BaseException.__getattribute__")))
    (xgg4 : PySem.W.findIn K (.ref C4) "__getattr__" = some none)
    (xhd4 : PySem.W.hasDictIn K C4 = true)
    (xac4 : PySem.W.findIn K (.ref C4) "__class__" = some (some (.builtin "object.__class__")))
    (xmo4 : PySem.W.mroIn K C4 (.type "object") = some true)
    (xg5 : PySem.W.nsIn K mainGlobals "NoOutput" = some (some (.ref C5)))
    (xk5 : PySem.W.keepIn K (.ref C5) = true)
    (xb5 : PySem.W.subIn K (.ref C5) (.type "BaseException") = some true)
    (xy5 : PySem.W.typeIn K (.ref C5) = some (.type "type"))
    (xga5 : PySem.W.findIn K (.ref C5) "__getattribute__" = some (some (.builtin "BaseException.__getattribute__")))
    (xgg5 : PySem.W.findIn K (.ref C5) "__getattr__" = some none)
    (xhd5 : PySem.W.hasDictIn K C5 = true)
    (xac5 : PySem.W.findIn K (.ref C5) "__class__" = some (some (.builtin "object.__class__")))
    (xmo5 : PySem.W.mroIn K C5 (.type "object") = some true)
    (xg6 : PySem.W.nsIn K mainGlobals "NothingToUndo" = some (some (.ref C6)))
    (xk6 : PySem.W.keepIn K (.ref C6) = true)
    (xb6 : PySem.W.subIn K (.ref C6) (.type "BaseException") = some true)
    (xy6 : PySem.W.typeIn K (.ref C6) = some (.type "type"))
    (xga6 : PySem.W.findIn K (.ref C6) "__getattribute__" = some (some (.builtin "BaseException.__getattribute__")))
    (xgg6 : PySem.W.findIn K (.ref C6) "__getattr__" = some none)
    (xhd6 : PySem.W.hasDictIn K C6 = true)
    (xac6 : PySem.W.findIn K (.ref C6) "__class__" = some (some (.builtin "object.__class__")))
    (xmo6 : PySem.W.mroIn K C6 (.type "object") = some true)
    (xg7 : PySem.W.nsIn K mainGlobals "InvalidCommand" = some (some (.ref C7)))
    (xk7 : PySem.W.keepIn K (.ref C7) = true)
    (xb7 : PySem.W.subIn K (.ref C7) (.type "BaseException") = some true)
    (xy7 : PySem.W.typeIn K (.ref C7) = some (.type "type"))
    (xga7 : PySem.W.findIn K (.ref C7) "__getattribute__" = some (some (.builtin "BaseException.__getattribute__")))
    (xgg7 : PySem.W.findIn K (.ref C7) "__getattr__" = some none)
    (xhd7 : PySem.W.hasDictIn K C7 = true)
    (xac7 : PySem.W.findIn K (.ref C7) "__class__" = some (some (.builtin "object.__class__")))
    (xmo7 : PySem.W.mroIn K C7 (.type "object") = some true)
    (xg8 : PySem.W.nsIn K mainGlobals "NoTransducer" = some (some (.ref C8)))
    (xk8 : PySem.W.keepIn K (.ref C8) = true)
    (xb8 : PySem.W.subIn K (.ref C8) (.type "BaseException") = some true)
    (xy8 : PySem.W.typeIn K (.ref C8) = some (.type "type"))
    (xga8 : PySem.W.findIn K (.ref C8) "__getattribute__" = some (some (.builtin "BaseException.__getattribute__")))
    (xgg8 : PySem.W.findIn K (.ref C8) "__getattr__" = some none)
    (xhd8 : PySem.W.hasDictIn K C8 = true)
    (xac8 : PySem.W.findIn K (.ref C8) "__class__" = some (some (.builtin "object.__class__")))
    (xmo8 : PySem.W.mroIn K C8 (.type "object") = some true)
    (xg9 : PySem.W.nsIn K mainGlobals "PassError" = some (some (.ref C9)))
    (xk9 : PySem.W.keepIn K (.ref C9) = true)
    (xb9 : PySem.W.subIn K (.ref C9) (.type "BaseException") = some true)
    (xy9 : PySem.W.typeIn K (.ref C9) = some (.type "type"))
    (xga9 : PySem.W.findIn K (.ref C9) "__getattribute__" = some (some (.builtin "BaseException.__getattribute__")))
    (xgg9 : PySem.W.findIn K (.ref C9) "__getattr__" = some none)
    (xhd9 : PySem.W.hasDictIn K C9 = true)
    (xac9 : PySem.W.findIn K (.ref C9) "__class__" = some (some (.builtin "object.__class__")))
    (xmo9 : PySem.W.mroIn K C9 (.type "object") = some true)
    (xpx : PySem.W.excIn K C9 [.type "Exception", .type "BaseException", .type "object"] "Exception.__new__" = true)
    (xl0 : K.lookup C0 = some (excClassObj xnm0 xq0 C0 xN0 xbs0 (.ref xP0 :: [.type "Exception", .type "BaseException", .type "object"]) true xsn0 xsb0 xab0 xco0 xdd0 x0_0 x1_0 x2_0 x3_0 x5_0 "Exception.__new__"))
    (xi0 : PySem.W.findIn K (.ref C0) "__init__" = some (some (.ref I0)))
    (xt0 : PySem.W.typeIn K (.ref I0) = some (.type "function"))
    (xf0 : K.lookup I0 = some ⟨xoc0, xod0, .func (PySem.W.ksFn "__init__" "BadTransducer.__init__" (PySem.L5.aA [("self", ⟨6, 17, 6, 21⟩), ("part", ⟨6, 23, 6, 27⟩)]) [PySem.L5.supS "the values are no transducer" ⟨⟨7, 8, 7, 13⟩, ⟨7, 8, 7, 15⟩, ⟨7, 8, 7, 24⟩, ⟨7, 25, 7, 55⟩, ⟨7, 8, 7, 56⟩, ⟨7, 8, 7, 56⟩⟩, PySem.L5.setS "part" ⟨8, 8, 8, 12⟩ ⟨8, 8, 8, 17⟩ ⟨8, 20, 8, 24⟩ ⟨8, 8, 8, 24⟩] (PySem.L5.sc1 "part") .none xkV0 xdc0 xpm0 xan0 (.ref ca0) xct0 cc0), xsl0⟩)
    (xc0 : PySem.W.codeIn K (.ref ca0) "BadTransducer.__init__" = true)
    (xo0 : K.lookup ca0 = some ⟨xcc0, xcd0, .fields xvs0, xcs0⟩)
    (xv0 : xvs0[2]? = some (.str l.prog.main.file xtf0))
    (xe0 : K.lookup cc0 = some ⟨xlc0, xld0, .cell (some (.ref C0)), xls0⟩)
    (xa0 : PySem.W.ks_superIn K C0 C0 "__init__" = some (some (.builtin "Exception.__init__")))
    (xs0 : PySem.W.findIn K (.ref C0) "__setattr__" = some (some (.builtin "object.__setattr__")))
    (xn0 : PySem.W.findIn K (.ref C0) "part" = some none)
    (xl1 : K.lookup C1 = some (excClassObj xnm1 xq1 C1 xN1 xbs1 (.ref xP1 :: [.type "Exception", .type "BaseException", .type "object"]) true xsn1 xsb1 xab1 xco1 xdd1 x0_1 x1_1 x2_1 x3_1 x5_1 "Exception.__new__"))
    (xi1 : PySem.W.findIn K (.ref C1) "__init__" = some (some (.ref I1)))
    (xt1 : PySem.W.typeIn K (.ref I1) = some (.type "function"))
    (xf1 : K.lookup I1 = some ⟨xoc1, xod1, .func (PySem.W.ksFn "__init__" "BadText.__init__" (PySem.L5.aA [("self", ⟨11, 17, 11, 21⟩), ("line", ⟨11, 23, 11, 27⟩)]) [PySem.L5.supS "the value is no text of a transducer" ⟨⟨12, 8, 12, 13⟩, ⟨12, 8, 12, 15⟩, ⟨12, 8, 12, 24⟩, ⟨12, 25, 12, 63⟩, ⟨12, 8, 12, 64⟩, ⟨12, 8, 12, 64⟩⟩, PySem.L5.setS "line" ⟨13, 8, 13, 12⟩ ⟨13, 8, 13, 17⟩ ⟨13, 20, 13, 24⟩ ⟨13, 8, 13, 24⟩] (PySem.L5.sc1 "line") .none xkV1 xdc1 xpm1 xan1 (.ref ca1) xct1 cc1), xsl1⟩)
    (xc1 : PySem.W.codeIn K (.ref ca1) "BadText.__init__" = true)
    (xo1 : K.lookup ca1 = some ⟨xcc1, xcd1, .fields xvs1, xcs1⟩)
    (xv1 : xvs1[2]? = some (.str l.prog.main.file xtf1))
    (xe1 : K.lookup cc1 = some ⟨xlc1, xld1, .cell (some (.ref C1)), xls1⟩)
    (xa1 : PySem.W.ks_superIn K C1 C1 "__init__" = some (some (.builtin "Exception.__init__")))
    (xs1 : PySem.W.findIn K (.ref C1) "__setattr__" = some (some (.builtin "object.__setattr__")))
    (xn1 : PySem.W.findIn K (.ref C1) "line" = some none)
    (xl2 : K.lookup C2 = some (excClassObj xnm2 xq2 C2 xN2 xbs2 (.ref xP2 :: [.type "Exception", .type "BaseException", .type "object"]) true xsn2 xsb2 xab2 xco2 xdd2 x0_2 x1_2 x2_2 x3_2 x5_2 "Exception.__new__"))
    (xi2 : PySem.W.findIn K (.ref C2) "__init__" = some (some (.ref I2)))
    (xt2 : PySem.W.typeIn K (.ref I2) = some (.type "function"))
    (xf2 : K.lookup I2 = some ⟨xoc2, xod2, .func (PySem.W.ksFn "__init__" "NotFunctional.__init__" (PySem.L5.aA [("self", ⟨16, 17, 16, 21⟩), ("conflict", ⟨16, 23, 16, 31⟩)]) [PySem.L5.supS "some text has two outputs" ⟨⟨17, 8, 17, 13⟩, ⟨17, 8, 17, 15⟩, ⟨17, 8, 17, 24⟩, ⟨17, 25, 17, 52⟩, ⟨17, 8, 17, 53⟩, ⟨17, 8, 17, 53⟩⟩, PySem.L5.setS "conflict" ⟨18, 8, 18, 12⟩ ⟨18, 8, 18, 21⟩ ⟨18, 24, 18, 32⟩ ⟨18, 8, 18, 32⟩] (PySem.L5.sc1 "conflict") .none xkV2 xdc2 xpm2 xan2 (.ref ca2) xct2 cc2), xsl2⟩)
    (xc2 : PySem.W.codeIn K (.ref ca2) "NotFunctional.__init__" = true)
    (xo2 : K.lookup ca2 = some ⟨xcc2, xcd2, .fields xvs2, xcs2⟩)
    (xv2 : xvs2[2]? = some (.str l.prog.main.file xtf2))
    (xe2 : K.lookup cc2 = some ⟨xlc2, xld2, .cell (some (.ref C2)), xls2⟩)
    (xa2 : PySem.W.ks_superIn K C2 C2 "__init__" = some (some (.builtin "Exception.__init__")))
    (xs2 : PySem.W.findIn K (.ref C2) "__setattr__" = some (some (.builtin "object.__setattr__")))
    (xn2 : PySem.W.findIn K (.ref C2) "conflict" = some none)
    (xl3 : K.lookup C3 = some (excClassObj xnm3 xq3 C3 xN3 xbs3 (.ref xP3 :: [.type "Exception", .type "BaseException", .type "object"]) true xsn3 xsb3 xab3 xco3 xdd3 x0_3 x1_3 x2_3 x3_3 x5_3 "Exception.__new__"))
    (xi3 : PySem.W.findIn K (.ref C3) "__init__" = some (some (.ref I3)))
    (xt3 : PySem.W.typeIn K (.ref I3) = some (.type "function"))
    (xf3 : K.lookup I3 = some ⟨xoc3, xod3, .func (PySem.W.ksFn "__init__" "Diverges.__init__" (PySem.L5.aA [("self", ⟨21, 17, 21, 21⟩), ("divergence", ⟨21, 23, 21, 33⟩)]) [PySem.L5.supS "the transducer has a divergence" ⟨⟨22, 8, 22, 13⟩, ⟨22, 8, 22, 15⟩, ⟨22, 8, 22, 24⟩, ⟨22, 25, 22, 58⟩, ⟨22, 8, 22, 59⟩, ⟨22, 8, 22, 59⟩⟩, PySem.L5.setS "divergence" ⟨23, 8, 23, 12⟩ ⟨23, 8, 23, 23⟩ ⟨23, 26, 23, 36⟩ ⟨23, 8, 23, 36⟩] (PySem.L5.sc1 "divergence") .none xkV3 xdc3 xpm3 xan3 (.ref ca3) xct3 cc3), xsl3⟩)
    (xc3 : PySem.W.codeIn K (.ref ca3) "Diverges.__init__" = true)
    (xo3 : K.lookup ca3 = some ⟨xcc3, xcd3, .fields xvs3, xcs3⟩)
    (xv3 : xvs3[2]? = some (.str l.prog.main.file xtf3))
    (xe3 : K.lookup cc3 = some ⟨xlc3, xld3, .cell (some (.ref C3)), xls3⟩)
    (xa3 : PySem.W.ks_superIn K C3 C3 "__init__" = some (some (.builtin "Exception.__init__")))
    (xs3 : PySem.W.findIn K (.ref C3) "__setattr__" = some (some (.builtin "object.__setattr__")))
    (xn3 : PySem.W.findIn K (.ref C3) "divergence" = some none)
    (xl4 : K.lookup C4 = some (excClassObj xnm4 xq4 C4 xN4 xbs4 (.ref xP4 :: [.type "Exception", .type "BaseException", .type "object"]) true xsn4 xsb4 xab4 xco4 xdd4 x0_4 x1_4 x2_4 x3_4 x5_4 "Exception.__new__"))
    (xi4 : PySem.W.findIn K (.ref C4) "__init__" = some (some (.ref I4)))
    (xt4 : PySem.W.typeIn K (.ref I4) = some (.type "function"))
    (xf4 : K.lookup I4 = some ⟨xoc4, xod4, .func (PySem.W.ksFn "__init__" "BadLetter.__init__" (PySem.L5.aA [("self", ⟨26, 17, 26, 21⟩), ("letter", ⟨26, 23, 26, 29⟩)]) [PySem.L5.supS "the value is no letter that can be taken" ⟨⟨27, 8, 27, 13⟩, ⟨27, 8, 27, 15⟩, ⟨27, 8, 27, 24⟩, ⟨27, 25, 27, 67⟩, ⟨27, 8, 27, 68⟩, ⟨27, 8, 27, 68⟩⟩, PySem.L5.setS "letter" ⟨28, 8, 28, 12⟩ ⟨28, 8, 28, 19⟩ ⟨28, 22, 28, 28⟩ ⟨28, 8, 28, 28⟩] (PySem.L5.sc1 "letter") .none xkV4 xdc4 xpm4 xan4 (.ref ca4) xct4 cc4), xsl4⟩)
    (xc4 : PySem.W.codeIn K (.ref ca4) "BadLetter.__init__" = true)
    (xo4 : K.lookup ca4 = some ⟨xcc4, xcd4, .fields xvs4, xcs4⟩)
    (xv4 : xvs4[2]? = some (.str l.prog.main.file xtf4))
    (xe4 : K.lookup cc4 = some ⟨xlc4, xld4, .cell (some (.ref C4)), xls4⟩)
    (xa4 : PySem.W.ks_superIn K C4 C4 "__init__" = some (some (.builtin "Exception.__init__")))
    (xs4 : PySem.W.findIn K (.ref C4) "__setattr__" = some (some (.builtin "object.__setattr__")))
    (xn4 : PySem.W.findIn K (.ref C4) "letter" = some none)
    (xl5 : K.lookup C5 = some (excClassObj xnm5 xq5 C5 xN5 xbs5 (.ref xP5 :: [.type "Exception", .type "BaseException", .type "object"]) true xsn5 xsb5 xab5 xco5 xdd5 x0_5 x1_5 x2_5 x3_5 x5_5 "Exception.__new__"))
    (xi5 : PySem.W.findIn K (.ref C5) "__init__" = some (some (.ref I5)))
    (xt5 : PySem.W.typeIn K (.ref I5) = some (.type "function"))
    (xf5 : K.lookup I5 = some ⟨xoc5, xod5, .func (PySem.W.ksFn "__init__" "NoOutput.__init__" (PySem.L5.aA [("self", ⟨31, 17, 31, 21⟩), ("text", ⟨31, 23, 31, 27⟩)]) [PySem.L5.supS "the text has no output" ⟨⟨32, 8, 32, 13⟩, ⟨32, 8, 32, 15⟩, ⟨32, 8, 32, 24⟩, ⟨32, 25, 32, 49⟩, ⟨32, 8, 32, 50⟩, ⟨32, 8, 32, 50⟩⟩, PySem.L5.setS "text" ⟨33, 8, 33, 12⟩ ⟨33, 8, 33, 17⟩ ⟨33, 20, 33, 24⟩ ⟨33, 8, 33, 24⟩] (PySem.L5.sc1 "text") .none xkV5 xdc5 xpm5 xan5 (.ref ca5) xct5 cc5), xsl5⟩)
    (xc5 : PySem.W.codeIn K (.ref ca5) "NoOutput.__init__" = true)
    (xo5 : K.lookup ca5 = some ⟨xcc5, xcd5, .fields xvs5, xcs5⟩)
    (xv5 : xvs5[2]? = some (.str l.prog.main.file xtf5))
    (xe5 : K.lookup cc5 = some ⟨xlc5, xld5, .cell (some (.ref C5)), xls5⟩)
    (xa5 : PySem.W.ks_superIn K C5 C5 "__init__" = some (some (.builtin "Exception.__init__")))
    (xs5 : PySem.W.findIn K (.ref C5) "__setattr__" = some (some (.builtin "object.__setattr__")))
    (xn5 : PySem.W.findIn K (.ref C5) "text" = some none)
    (xl6 : K.lookup C6 = some (excClassObj xnm6 xq6 C6 xN6 xbs6 (.ref xP6 :: [.type "Exception", .type "BaseException", .type "object"]) true xsn6 xsb6 xab6 xco6 xdd6 x0_6 x1_6 x2_6 x3_6 x5_6 "Exception.__new__"))
    (xi6 : PySem.W.findIn K (.ref C6) "__init__" = some (some (.ref I6)))
    (xt6 : PySem.W.typeIn K (.ref I6) = some (.type "function"))
    (xf6 : K.lookup I6 = some ⟨xoc6, xod6, .func (PySem.W.ksFn "__init__" "NothingToUndo.__init__" (PySem.L5.aA [("self", ⟨36, 17, 36, 21⟩)]) [PySem.L5.supS "there is nothing to take back" ⟨⟨37, 8, 37, 13⟩, ⟨37, 8, 37, 15⟩, ⟨37, 8, 37, 24⟩, ⟨37, 25, 37, 56⟩, ⟨37, 8, 37, 57⟩, ⟨37, 8, 37, 57⟩⟩] PySem.L5.sc0 .none xkV6 xdc6 xpm6 xan6 (.ref ca6) xct6 cc6), xsl6⟩)
    (xc6 : PySem.W.codeIn K (.ref ca6) "NothingToUndo.__init__" = true)
    (xo6 : K.lookup ca6 = some ⟨xcc6, xcd6, .fields xvs6, xcs6⟩)
    (xv6 : xvs6[2]? = some (.str l.prog.main.file xtf6))
    (xe6 : K.lookup cc6 = some ⟨xlc6, xld6, .cell (some (.ref C6)), xls6⟩)
    (xa6 : PySem.W.ks_superIn K C6 C6 "__init__" = some (some (.builtin "Exception.__init__")))
    (xl7 : K.lookup C7 = some (excClassObj xnm7 xq7 C7 xN7 xbs7 (.ref xP7 :: [.type "Exception", .type "BaseException", .type "object"]) true xsn7 xsb7 xab7 xco7 xdd7 x0_7 x1_7 x2_7 x3_7 x5_7 "Exception.__new__"))
    (xi7 : PySem.W.findIn K (.ref C7) "__init__" = some (some (.ref I7)))
    (xt7 : PySem.W.typeIn K (.ref I7) = some (.type "function"))
    (xf7 : K.lookup I7 = some ⟨xoc7, xod7, .func (PySem.W.ksFn "__init__" "InvalidCommand.__init__" (PySem.L5.aA [("self", ⟨40, 17, 40, 21⟩)]) [PySem.L5.supS "the value is no command" ⟨⟨41, 8, 41, 13⟩, ⟨41, 8, 41, 15⟩, ⟨41, 8, 41, 24⟩, ⟨41, 25, 41, 50⟩, ⟨41, 8, 41, 51⟩, ⟨41, 8, 41, 51⟩⟩] PySem.L5.sc0 .none xkV7 xdc7 xpm7 xan7 (.ref ca7) xct7 cc7), xsl7⟩)
    (xc7 : PySem.W.codeIn K (.ref ca7) "InvalidCommand.__init__" = true)
    (xo7 : K.lookup ca7 = some ⟨xcc7, xcd7, .fields xvs7, xcs7⟩)
    (xv7 : xvs7[2]? = some (.str l.prog.main.file xtf7))
    (xe7 : K.lookup cc7 = some ⟨xlc7, xld7, .cell (some (.ref C7)), xls7⟩)
    (xa7 : PySem.W.ks_superIn K C7 C7 "__init__" = some (some (.builtin "Exception.__init__")))
    (xl8 : K.lookup C8 = some (excClassObj xnm8 xq8 C8 xN8 xbs8 (.ref xP8 :: [.type "Exception", .type "BaseException", .type "object"]) true xsn8 xsb8 xab8 xco8 xdd8 x0_8 x1_8 x2_8 x3_8 x5_8 "Exception.__new__"))
    (xi8 : PySem.W.findIn K (.ref C8) "__init__" = some (some (.ref I8)))
    (xt8 : PySem.W.typeIn K (.ref I8) = some (.type "function"))
    (xf8 : K.lookup I8 = some ⟨xoc8, xod8, .func (PySem.W.ksFn "__init__" "NoTransducer.__init__" (PySem.L5.aA [("self", ⟨44, 17, 44, 21⟩)]) [PySem.L5.supS "the console keeps no transducer" ⟨⟨45, 8, 45, 13⟩, ⟨45, 8, 45, 15⟩, ⟨45, 8, 45, 24⟩, ⟨45, 25, 45, 58⟩, ⟨45, 8, 45, 59⟩, ⟨45, 8, 45, 59⟩⟩] PySem.L5.sc0 .none xkV8 xdc8 xpm8 xan8 (.ref ca8) xct8 cc8), xsl8⟩)
    (xc8 : PySem.W.codeIn K (.ref ca8) "NoTransducer.__init__" = true)
    (xo8 : K.lookup ca8 = some ⟨xcc8, xcd8, .fields xvs8, xcs8⟩)
    (xv8 : xvs8[2]? = some (.str l.prog.main.file xtf8))
    (xe8 : K.lookup cc8 = some ⟨xlc8, xld8, .cell (some (.ref C8)), xls8⟩)
    (xa8 : PySem.W.ks_superIn K C8 C8 "__init__" = some (some (.builtin "Exception.__init__")))
    (kt0_0 : PySem.W.kitOne K (.ref C0) (.ref C0) = some true)
    (kt0_1 : PySem.W.kitOne K (.ref C0) (.ref C1) = some false)
    (kt0_2 : PySem.W.kitOne K (.ref C0) (.ref C2) = some false)
    (kt0_3 : PySem.W.kitOne K (.ref C0) (.ref C3) = some false)
    (kt0_4 : PySem.W.kitOne K (.ref C0) (.ref C4) = some false)
    (kt0_5 : PySem.W.kitOne K (.ref C0) (.ref C5) = some false)
    (kt0_6 : PySem.W.kitOne K (.ref C0) (.ref C6) = some false)
    (kt0_7 : PySem.W.kitOne K (.ref C0) (.ref C7) = some false)
    (kt0_8 : PySem.W.kitOne K (.ref C0) (.ref C8) = some false)
    (kt0_9 : PySem.W.kitOne K (.ref C0) (.ref C9) = some true)
    (ke0 : PySem.W.kitOne K (.ref C0) (.type "Exception") = some true)
    (kt1_0 : PySem.W.kitOne K (.ref C1) (.ref C0) = some false)
    (kt1_1 : PySem.W.kitOne K (.ref C1) (.ref C1) = some true)
    (kt1_2 : PySem.W.kitOne K (.ref C1) (.ref C2) = some false)
    (kt1_3 : PySem.W.kitOne K (.ref C1) (.ref C3) = some false)
    (kt1_4 : PySem.W.kitOne K (.ref C1) (.ref C4) = some false)
    (kt1_5 : PySem.W.kitOne K (.ref C1) (.ref C5) = some false)
    (kt1_6 : PySem.W.kitOne K (.ref C1) (.ref C6) = some false)
    (kt1_7 : PySem.W.kitOne K (.ref C1) (.ref C7) = some false)
    (kt1_8 : PySem.W.kitOne K (.ref C1) (.ref C8) = some false)
    (kt1_9 : PySem.W.kitOne K (.ref C1) (.ref C9) = some true)
    (ke1 : PySem.W.kitOne K (.ref C1) (.type "Exception") = some true)
    (kt2_0 : PySem.W.kitOne K (.ref C2) (.ref C0) = some false)
    (kt2_1 : PySem.W.kitOne K (.ref C2) (.ref C1) = some false)
    (kt2_2 : PySem.W.kitOne K (.ref C2) (.ref C2) = some true)
    (kt2_3 : PySem.W.kitOne K (.ref C2) (.ref C3) = some false)
    (kt2_4 : PySem.W.kitOne K (.ref C2) (.ref C4) = some false)
    (kt2_5 : PySem.W.kitOne K (.ref C2) (.ref C5) = some false)
    (kt2_6 : PySem.W.kitOne K (.ref C2) (.ref C6) = some false)
    (kt2_7 : PySem.W.kitOne K (.ref C2) (.ref C7) = some false)
    (kt2_8 : PySem.W.kitOne K (.ref C2) (.ref C8) = some false)
    (kt2_9 : PySem.W.kitOne K (.ref C2) (.ref C9) = some true)
    (ke2 : PySem.W.kitOne K (.ref C2) (.type "Exception") = some true)
    (kt3_0 : PySem.W.kitOne K (.ref C3) (.ref C0) = some false)
    (kt3_1 : PySem.W.kitOne K (.ref C3) (.ref C1) = some false)
    (kt3_2 : PySem.W.kitOne K (.ref C3) (.ref C2) = some false)
    (kt3_3 : PySem.W.kitOne K (.ref C3) (.ref C3) = some true)
    (kt3_4 : PySem.W.kitOne K (.ref C3) (.ref C4) = some false)
    (kt3_5 : PySem.W.kitOne K (.ref C3) (.ref C5) = some false)
    (kt3_6 : PySem.W.kitOne K (.ref C3) (.ref C6) = some false)
    (kt3_7 : PySem.W.kitOne K (.ref C3) (.ref C7) = some false)
    (kt3_8 : PySem.W.kitOne K (.ref C3) (.ref C8) = some false)
    (kt3_9 : PySem.W.kitOne K (.ref C3) (.ref C9) = some true)
    (ke3 : PySem.W.kitOne K (.ref C3) (.type "Exception") = some true)
    (kt4_0 : PySem.W.kitOne K (.ref C4) (.ref C0) = some false)
    (kt4_1 : PySem.W.kitOne K (.ref C4) (.ref C1) = some false)
    (kt4_2 : PySem.W.kitOne K (.ref C4) (.ref C2) = some false)
    (kt4_3 : PySem.W.kitOne K (.ref C4) (.ref C3) = some false)
    (kt4_4 : PySem.W.kitOne K (.ref C4) (.ref C4) = some true)
    (kt4_5 : PySem.W.kitOne K (.ref C4) (.ref C5) = some false)
    (kt4_6 : PySem.W.kitOne K (.ref C4) (.ref C6) = some false)
    (kt4_7 : PySem.W.kitOne K (.ref C4) (.ref C7) = some false)
    (kt4_8 : PySem.W.kitOne K (.ref C4) (.ref C8) = some false)
    (kt4_9 : PySem.W.kitOne K (.ref C4) (.ref C9) = some true)
    (ke4 : PySem.W.kitOne K (.ref C4) (.type "Exception") = some true)
    (kt5_0 : PySem.W.kitOne K (.ref C5) (.ref C0) = some false)
    (kt5_1 : PySem.W.kitOne K (.ref C5) (.ref C1) = some false)
    (kt5_2 : PySem.W.kitOne K (.ref C5) (.ref C2) = some false)
    (kt5_3 : PySem.W.kitOne K (.ref C5) (.ref C3) = some false)
    (kt5_4 : PySem.W.kitOne K (.ref C5) (.ref C4) = some false)
    (kt5_5 : PySem.W.kitOne K (.ref C5) (.ref C5) = some true)
    (kt5_6 : PySem.W.kitOne K (.ref C5) (.ref C6) = some false)
    (kt5_7 : PySem.W.kitOne K (.ref C5) (.ref C7) = some false)
    (kt5_8 : PySem.W.kitOne K (.ref C5) (.ref C8) = some false)
    (kt5_9 : PySem.W.kitOne K (.ref C5) (.ref C9) = some true)
    (ke5 : PySem.W.kitOne K (.ref C5) (.type "Exception") = some true)
    (kt6_0 : PySem.W.kitOne K (.ref C6) (.ref C0) = some false)
    (kt6_1 : PySem.W.kitOne K (.ref C6) (.ref C1) = some false)
    (kt6_2 : PySem.W.kitOne K (.ref C6) (.ref C2) = some false)
    (kt6_3 : PySem.W.kitOne K (.ref C6) (.ref C3) = some false)
    (kt6_4 : PySem.W.kitOne K (.ref C6) (.ref C4) = some false)
    (kt6_5 : PySem.W.kitOne K (.ref C6) (.ref C5) = some false)
    (kt6_6 : PySem.W.kitOne K (.ref C6) (.ref C6) = some true)
    (kt6_7 : PySem.W.kitOne K (.ref C6) (.ref C7) = some false)
    (kt6_8 : PySem.W.kitOne K (.ref C6) (.ref C8) = some false)
    (kt6_9 : PySem.W.kitOne K (.ref C6) (.ref C9) = some true)
    (ke6 : PySem.W.kitOne K (.ref C6) (.type "Exception") = some true)
    (kt7_0 : PySem.W.kitOne K (.ref C7) (.ref C0) = some false)
    (kt7_1 : PySem.W.kitOne K (.ref C7) (.ref C1) = some false)
    (kt7_2 : PySem.W.kitOne K (.ref C7) (.ref C2) = some false)
    (kt7_3 : PySem.W.kitOne K (.ref C7) (.ref C3) = some false)
    (kt7_4 : PySem.W.kitOne K (.ref C7) (.ref C4) = some false)
    (kt7_5 : PySem.W.kitOne K (.ref C7) (.ref C5) = some false)
    (kt7_6 : PySem.W.kitOne K (.ref C7) (.ref C6) = some false)
    (kt7_7 : PySem.W.kitOne K (.ref C7) (.ref C7) = some true)
    (kt7_8 : PySem.W.kitOne K (.ref C7) (.ref C8) = some false)
    (kt7_9 : PySem.W.kitOne K (.ref C7) (.ref C9) = some true)
    (ke7 : PySem.W.kitOne K (.ref C7) (.type "Exception") = some true)
    (kt8_0 : PySem.W.kitOne K (.ref C8) (.ref C0) = some false)
    (kt8_1 : PySem.W.kitOne K (.ref C8) (.ref C1) = some false)
    (kt8_2 : PySem.W.kitOne K (.ref C8) (.ref C2) = some false)
    (kt8_3 : PySem.W.kitOne K (.ref C8) (.ref C3) = some false)
    (kt8_4 : PySem.W.kitOne K (.ref C8) (.ref C4) = some false)
    (kt8_5 : PySem.W.kitOne K (.ref C8) (.ref C5) = some false)
    (kt8_6 : PySem.W.kitOne K (.ref C8) (.ref C6) = some false)
    (kt8_7 : PySem.W.kitOne K (.ref C8) (.ref C7) = some false)
    (kt8_8 : PySem.W.kitOne K (.ref C8) (.ref C8) = some true)
    (kt8_9 : PySem.W.kitOne K (.ref C8) (.ref C9) = some true)
    (ke8 : PySem.W.kitOne K (.ref C8) (.type "Exception") = some true)
    (kt9_0 : PySem.W.kitOne K (.ref C9) (.ref C0) = some false)
    (kt9_1 : PySem.W.kitOne K (.ref C9) (.ref C1) = some false)
    (kt9_2 : PySem.W.kitOne K (.ref C9) (.ref C2) = some false)
    (kt9_3 : PySem.W.kitOne K (.ref C9) (.ref C3) = some false)
    (kt9_4 : PySem.W.kitOne K (.ref C9) (.ref C4) = some false)
    (kt9_5 : PySem.W.kitOne K (.ref C9) (.ref C5) = some false)
    (kt9_6 : PySem.W.kitOne K (.ref C9) (.ref C6) = some false)
    (kt9_7 : PySem.W.kitOne K (.ref C9) (.ref C7) = some false)
    (kt9_8 : PySem.W.kitOne K (.ref C9) (.ref C8) = some false)
    (kt9_9 : PySem.W.kitOne K (.ref C9) (.ref C9) = some true)
    (ke9 : PySem.W.kitOne K (.ref C9) (.type "Exception") = some true)
    (xm0 : PySem.W.exmOne K (.ref C0) (.ref C9) = some true)
    (xm1 : PySem.W.exmOne K (.ref C1) (.ref C9) = some true)
    (xm2 : PySem.W.exmOne K (.ref C2) (.ref C9) = some true)
    (xm3 : PySem.W.exmOne K (.ref C3) (.ref C9) = some true)
    (xm4 : PySem.W.exmOne K (.ref C4) (.ref C9) = some true)
    (xm5 : PySem.W.exmOne K (.ref C5) (.ref C9) = some true)
    (xm6 : PySem.W.exmOne K (.ref C6) (.ref C9) = some true)
    (xm7 : PySem.W.exmOne K (.ref C7) (.ref C9) = some true)
    (xm8 : PySem.W.exmOne K (.ref C8) (.ref C9) = some true)
    : ∃ fd : FuncData, (∀ (s : Shared) (v : Value), BindsTo s fd ⟨[v], []⟩ [("_law_script", v)]) ∧ ∀ base : Heap, K.In base → base.Ns mainGlobals mg → FnG l.prog w K mg base 3 fa fd ["_law_script"] (spLaw K) := by
  have e : f7 = fa := by
    have e := (PySem.W.mg_of X G a7).symm.trans hfa
    cases e
    rfl
  subst e
  have ea0 : ExcA K C0 := ⟨xga0, xgg0, xb0, xhd0, xac0, xdg, xtk, xmo0⟩
  have ea1 : ExcA K C1 := ⟨xga1, xgg1, xb1, xhd1, xac1, xdg, xtk, xmo1⟩
  have ea2 : ExcA K C2 := ⟨xga2, xgg2, xb2, xhd2, xac2, xdg, xtk, xmo2⟩
  have ea3 : ExcA K C3 := ⟨xga3, xgg3, xb3, xhd3, xac3, xdg, xtk, xmo3⟩
  have ea4 : ExcA K C4 := ⟨xga4, xgg4, xb4, xhd4, xac4, xdg, xtk, xmo4⟩
  have ea5 : ExcA K C5 := ⟨xga5, xgg5, xb5, xhd5, xac5, xdg, xtk, xmo5⟩
  have ea6 : ExcA K C6 := ⟨xga6, xgg6, xb6, xhd6, xac6, xdg, xtk, xmo6⟩
  have ea7 : ExcA K C7 := ⟨xga7, xgg7, xb7, xhd7, xac7, xdg, xtk, xmo7⟩
  have ea8 : ExcA K C8 := ⟨xga8, xgg8, xb8, xhd8, xac8, xdg, xtk, xmo8⟩
  have ea9 : ExcA K C9 := ⟨xga9, xgg9, xb9, xhd9, xac9, xdg, xtk, xmo9⟩
  have so0 : PySem.L5.SupOk "the values are no transducer" ⟨⟨7, 8, 7, 13⟩, ⟨7, 8, 7, 15⟩, ⟨7, 8, 7, 24⟩, ⟨7, 25, 7, 55⟩, ⟨7, 8, 7, 56⟩, ⟨7, 8, 7, 56⟩⟩ := ⟨_, fun env => rfl⟩
  have bc0 : PySem.L5.BadC l.prog K mg C0 I0 cc0 ca0 (PySem.W.ksFn "__init__" "BadTransducer.__init__" (PySem.L5.aA [("self", ⟨6, 17, 6, 21⟩), ("part", ⟨6, 23, 6, 27⟩)]) [PySem.L5.supS "the values are no transducer" ⟨⟨7, 8, 7, 13⟩, ⟨7, 8, 7, 15⟩, ⟨7, 8, 7, 24⟩, ⟨7, 25, 7, 55⟩, ⟨7, 8, 7, 56⟩, ⟨7, 8, 7, 56⟩⟩, PySem.L5.setS "part" ⟨8, 8, 8, 12⟩ ⟨8, 8, 8, 17⟩ ⟨8, 20, 8, 24⟩ ⟨8, 8, 8, 24⟩] (PySem.L5.sc1 "part") .none xkV0 xdc0 xpm0 xan0 (.ref ca0) xct0 cc0) := ⟨⟨_, _, _, _, xP0, _, _, _, _, _, _, _, _, _, _, xl0⟩, xi0, xt0, ⟨_, _, _, xf0⟩, xc0, ⟨_, _, _, _, _, xo0, xv0⟩, ⟨_, _, _, xe0⟩, PySem.W.mg_none_of X G xsup, xtop, xany, xa0⟩
  have kb0 : BadK K C0 I0 := ⟨bc0.cls, xi0, xt0, xk0, xb0, xy0⟩
  have in0 : Init1 l.prog K mg C0 I0 "part" := init1_of so0 bc0 (by decide) xs0 xn0 (fun s x v => .of_eq rfl) (fun s x v => .of_eq rfl)
  have so1 : PySem.L5.SupOk "the value is no text of a transducer" ⟨⟨12, 8, 12, 13⟩, ⟨12, 8, 12, 15⟩, ⟨12, 8, 12, 24⟩, ⟨12, 25, 12, 63⟩, ⟨12, 8, 12, 64⟩, ⟨12, 8, 12, 64⟩⟩ := ⟨_, fun env => rfl⟩
  have bc1 : PySem.L5.BadC l.prog K mg C1 I1 cc1 ca1 (PySem.W.ksFn "__init__" "BadText.__init__" (PySem.L5.aA [("self", ⟨11, 17, 11, 21⟩), ("line", ⟨11, 23, 11, 27⟩)]) [PySem.L5.supS "the value is no text of a transducer" ⟨⟨12, 8, 12, 13⟩, ⟨12, 8, 12, 15⟩, ⟨12, 8, 12, 24⟩, ⟨12, 25, 12, 63⟩, ⟨12, 8, 12, 64⟩, ⟨12, 8, 12, 64⟩⟩, PySem.L5.setS "line" ⟨13, 8, 13, 12⟩ ⟨13, 8, 13, 17⟩ ⟨13, 20, 13, 24⟩ ⟨13, 8, 13, 24⟩] (PySem.L5.sc1 "line") .none xkV1 xdc1 xpm1 xan1 (.ref ca1) xct1 cc1) := ⟨⟨_, _, _, _, xP1, _, _, _, _, _, _, _, _, _, _, xl1⟩, xi1, xt1, ⟨_, _, _, xf1⟩, xc1, ⟨_, _, _, _, _, xo1, xv1⟩, ⟨_, _, _, xe1⟩, PySem.W.mg_none_of X G xsup, xtop, xany, xa1⟩
  have kb1 : BadK K C1 I1 := ⟨bc1.cls, xi1, xt1, xk1, xb1, xy1⟩
  have in1 : Init1 l.prog K mg C1 I1 "line" := init1_of so1 bc1 (by decide) xs1 xn1 (fun s x v => .of_eq rfl) (fun s x v => .of_eq rfl)
  have so2 : PySem.L5.SupOk "some text has two outputs" ⟨⟨17, 8, 17, 13⟩, ⟨17, 8, 17, 15⟩, ⟨17, 8, 17, 24⟩, ⟨17, 25, 17, 52⟩, ⟨17, 8, 17, 53⟩, ⟨17, 8, 17, 53⟩⟩ := ⟨_, fun env => rfl⟩
  have bc2 : PySem.L5.BadC l.prog K mg C2 I2 cc2 ca2 (PySem.W.ksFn "__init__" "NotFunctional.__init__" (PySem.L5.aA [("self", ⟨16, 17, 16, 21⟩), ("conflict", ⟨16, 23, 16, 31⟩)]) [PySem.L5.supS "some text has two outputs" ⟨⟨17, 8, 17, 13⟩, ⟨17, 8, 17, 15⟩, ⟨17, 8, 17, 24⟩, ⟨17, 25, 17, 52⟩, ⟨17, 8, 17, 53⟩, ⟨17, 8, 17, 53⟩⟩, PySem.L5.setS "conflict" ⟨18, 8, 18, 12⟩ ⟨18, 8, 18, 21⟩ ⟨18, 24, 18, 32⟩ ⟨18, 8, 18, 32⟩] (PySem.L5.sc1 "conflict") .none xkV2 xdc2 xpm2 xan2 (.ref ca2) xct2 cc2) := ⟨⟨_, _, _, _, xP2, _, _, _, _, _, _, _, _, _, _, xl2⟩, xi2, xt2, ⟨_, _, _, xf2⟩, xc2, ⟨_, _, _, _, _, xo2, xv2⟩, ⟨_, _, _, xe2⟩, PySem.W.mg_none_of X G xsup, xtop, xany, xa2⟩
  have kb2 : BadK K C2 I2 := ⟨bc2.cls, xi2, xt2, xk2, xb2, xy2⟩
  have in2 : Init1 l.prog K mg C2 I2 "conflict" := init1_of so2 bc2 (by decide) xs2 xn2 (fun s x v => .of_eq rfl) (fun s x v => .of_eq rfl)
  have so3 : PySem.L5.SupOk "the transducer has a divergence" ⟨⟨22, 8, 22, 13⟩, ⟨22, 8, 22, 15⟩, ⟨22, 8, 22, 24⟩, ⟨22, 25, 22, 58⟩, ⟨22, 8, 22, 59⟩, ⟨22, 8, 22, 59⟩⟩ := ⟨_, fun env => rfl⟩
  have bc3 : PySem.L5.BadC l.prog K mg C3 I3 cc3 ca3 (PySem.W.ksFn "__init__" "Diverges.__init__" (PySem.L5.aA [("self", ⟨21, 17, 21, 21⟩), ("divergence", ⟨21, 23, 21, 33⟩)]) [PySem.L5.supS "the transducer has a divergence" ⟨⟨22, 8, 22, 13⟩, ⟨22, 8, 22, 15⟩, ⟨22, 8, 22, 24⟩, ⟨22, 25, 22, 58⟩, ⟨22, 8, 22, 59⟩, ⟨22, 8, 22, 59⟩⟩, PySem.L5.setS "divergence" ⟨23, 8, 23, 12⟩ ⟨23, 8, 23, 23⟩ ⟨23, 26, 23, 36⟩ ⟨23, 8, 23, 36⟩] (PySem.L5.sc1 "divergence") .none xkV3 xdc3 xpm3 xan3 (.ref ca3) xct3 cc3) := ⟨⟨_, _, _, _, xP3, _, _, _, _, _, _, _, _, _, _, xl3⟩, xi3, xt3, ⟨_, _, _, xf3⟩, xc3, ⟨_, _, _, _, _, xo3, xv3⟩, ⟨_, _, _, xe3⟩, PySem.W.mg_none_of X G xsup, xtop, xany, xa3⟩
  have kb3 : BadK K C3 I3 := ⟨bc3.cls, xi3, xt3, xk3, xb3, xy3⟩
  have in3 : Init1 l.prog K mg C3 I3 "divergence" := init1_of so3 bc3 (by decide) xs3 xn3 (fun s x v => .of_eq rfl) (fun s x v => .of_eq rfl)
  have so4 : PySem.L5.SupOk "the value is no letter that can be taken" ⟨⟨27, 8, 27, 13⟩, ⟨27, 8, 27, 15⟩, ⟨27, 8, 27, 24⟩, ⟨27, 25, 27, 67⟩, ⟨27, 8, 27, 68⟩, ⟨27, 8, 27, 68⟩⟩ := ⟨_, fun env => rfl⟩
  have bc4 : PySem.L5.BadC l.prog K mg C4 I4 cc4 ca4 (PySem.W.ksFn "__init__" "BadLetter.__init__" (PySem.L5.aA [("self", ⟨26, 17, 26, 21⟩), ("letter", ⟨26, 23, 26, 29⟩)]) [PySem.L5.supS "the value is no letter that can be taken" ⟨⟨27, 8, 27, 13⟩, ⟨27, 8, 27, 15⟩, ⟨27, 8, 27, 24⟩, ⟨27, 25, 27, 67⟩, ⟨27, 8, 27, 68⟩, ⟨27, 8, 27, 68⟩⟩, PySem.L5.setS "letter" ⟨28, 8, 28, 12⟩ ⟨28, 8, 28, 19⟩ ⟨28, 22, 28, 28⟩ ⟨28, 8, 28, 28⟩] (PySem.L5.sc1 "letter") .none xkV4 xdc4 xpm4 xan4 (.ref ca4) xct4 cc4) := ⟨⟨_, _, _, _, xP4, _, _, _, _, _, _, _, _, _, _, xl4⟩, xi4, xt4, ⟨_, _, _, xf4⟩, xc4, ⟨_, _, _, _, _, xo4, xv4⟩, ⟨_, _, _, xe4⟩, PySem.W.mg_none_of X G xsup, xtop, xany, xa4⟩
  have kb4 : BadK K C4 I4 := ⟨bc4.cls, xi4, xt4, xk4, xb4, xy4⟩
  have in4 : Init1 l.prog K mg C4 I4 "letter" := init1_of so4 bc4 (by decide) xs4 xn4 (fun s x v => .of_eq rfl) (fun s x v => .of_eq rfl)
  have so5 : PySem.L5.SupOk "the text has no output" ⟨⟨32, 8, 32, 13⟩, ⟨32, 8, 32, 15⟩, ⟨32, 8, 32, 24⟩, ⟨32, 25, 32, 49⟩, ⟨32, 8, 32, 50⟩, ⟨32, 8, 32, 50⟩⟩ := ⟨_, fun env => rfl⟩
  have bc5 : PySem.L5.BadC l.prog K mg C5 I5 cc5 ca5 (PySem.W.ksFn "__init__" "NoOutput.__init__" (PySem.L5.aA [("self", ⟨31, 17, 31, 21⟩), ("text", ⟨31, 23, 31, 27⟩)]) [PySem.L5.supS "the text has no output" ⟨⟨32, 8, 32, 13⟩, ⟨32, 8, 32, 15⟩, ⟨32, 8, 32, 24⟩, ⟨32, 25, 32, 49⟩, ⟨32, 8, 32, 50⟩, ⟨32, 8, 32, 50⟩⟩, PySem.L5.setS "text" ⟨33, 8, 33, 12⟩ ⟨33, 8, 33, 17⟩ ⟨33, 20, 33, 24⟩ ⟨33, 8, 33, 24⟩] (PySem.L5.sc1 "text") .none xkV5 xdc5 xpm5 xan5 (.ref ca5) xct5 cc5) := ⟨⟨_, _, _, _, xP5, _, _, _, _, _, _, _, _, _, _, xl5⟩, xi5, xt5, ⟨_, _, _, xf5⟩, xc5, ⟨_, _, _, _, _, xo5, xv5⟩, ⟨_, _, _, xe5⟩, PySem.W.mg_none_of X G xsup, xtop, xany, xa5⟩
  have kb5 : BadK K C5 I5 := ⟨bc5.cls, xi5, xt5, xk5, xb5, xy5⟩
  have in5 : Init1 l.prog K mg C5 I5 "text" := init1_of so5 bc5 (by decide) xs5 xn5 (fun s x v => .of_eq rfl) (fun s x v => .of_eq rfl)
  have so6 : PySem.L5.SupOk "there is nothing to take back" ⟨⟨37, 8, 37, 13⟩, ⟨37, 8, 37, 15⟩, ⟨37, 8, 37, 24⟩, ⟨37, 25, 37, 56⟩, ⟨37, 8, 37, 57⟩, ⟨37, 8, 37, 57⟩⟩ := ⟨_, fun env => rfl⟩
  have bc6 : PySem.L5.BadC l.prog K mg C6 I6 cc6 ca6 (PySem.W.ksFn "__init__" "NothingToUndo.__init__" (PySem.L5.aA [("self", ⟨36, 17, 36, 21⟩)]) [PySem.L5.supS "there is nothing to take back" ⟨⟨37, 8, 37, 13⟩, ⟨37, 8, 37, 15⟩, ⟨37, 8, 37, 24⟩, ⟨37, 25, 37, 56⟩, ⟨37, 8, 37, 57⟩, ⟨37, 8, 37, 57⟩⟩] PySem.L5.sc0 .none xkV6 xdc6 xpm6 xan6 (.ref ca6) xct6 cc6) := ⟨⟨_, _, _, _, xP6, _, _, _, _, _, _, _, _, _, _, xl6⟩, xi6, xt6, ⟨_, _, _, xf6⟩, xc6, ⟨_, _, _, _, _, xo6, xv6⟩, ⟨_, _, _, xe6⟩, PySem.W.mg_none_of X G xsup, xtop, xany, xa6⟩
  have kb6 : BadK K C6 I6 := ⟨bc6.cls, xi6, xt6, xk6, xb6, xy6⟩
  have in6 : Init0 l.prog K mg C6 I6 := init0_of so6 bc6 (fun s x => .of_eq rfl)
  have so7 : PySem.L5.SupOk "the value is no command" ⟨⟨41, 8, 41, 13⟩, ⟨41, 8, 41, 15⟩, ⟨41, 8, 41, 24⟩, ⟨41, 25, 41, 50⟩, ⟨41, 8, 41, 51⟩, ⟨41, 8, 41, 51⟩⟩ := ⟨_, fun env => rfl⟩
  have bc7 : PySem.L5.BadC l.prog K mg C7 I7 cc7 ca7 (PySem.W.ksFn "__init__" "InvalidCommand.__init__" (PySem.L5.aA [("self", ⟨40, 17, 40, 21⟩)]) [PySem.L5.supS "the value is no command" ⟨⟨41, 8, 41, 13⟩, ⟨41, 8, 41, 15⟩, ⟨41, 8, 41, 24⟩, ⟨41, 25, 41, 50⟩, ⟨41, 8, 41, 51⟩, ⟨41, 8, 41, 51⟩⟩] PySem.L5.sc0 .none xkV7 xdc7 xpm7 xan7 (.ref ca7) xct7 cc7) := ⟨⟨_, _, _, _, xP7, _, _, _, _, _, _, _, _, _, _, xl7⟩, xi7, xt7, ⟨_, _, _, xf7⟩, xc7, ⟨_, _, _, _, _, xo7, xv7⟩, ⟨_, _, _, xe7⟩, PySem.W.mg_none_of X G xsup, xtop, xany, xa7⟩
  have kb7 : BadK K C7 I7 := ⟨bc7.cls, xi7, xt7, xk7, xb7, xy7⟩
  have in7 : Init0 l.prog K mg C7 I7 := init0_of so7 bc7 (fun s x => .of_eq rfl)
  have so8 : PySem.L5.SupOk "the console keeps no transducer" ⟨⟨45, 8, 45, 13⟩, ⟨45, 8, 45, 15⟩, ⟨45, 8, 45, 24⟩, ⟨45, 25, 45, 58⟩, ⟨45, 8, 45, 59⟩, ⟨45, 8, 45, 59⟩⟩ := ⟨_, fun env => rfl⟩
  have bc8 : PySem.L5.BadC l.prog K mg C8 I8 cc8 ca8 (PySem.W.ksFn "__init__" "NoTransducer.__init__" (PySem.L5.aA [("self", ⟨44, 17, 44, 21⟩)]) [PySem.L5.supS "the console keeps no transducer" ⟨⟨45, 8, 45, 13⟩, ⟨45, 8, 45, 15⟩, ⟨45, 8, 45, 24⟩, ⟨45, 25, 45, 58⟩, ⟨45, 8, 45, 59⟩, ⟨45, 8, 45, 59⟩⟩] PySem.L5.sc0 .none xkV8 xdc8 xpm8 xan8 (.ref ca8) xct8 cc8) := ⟨⟨_, _, _, _, xP8, _, _, _, _, _, _, _, _, _, _, xl8⟩, xi8, xt8, ⟨_, _, _, xf8⟩, xc8, ⟨_, _, _, _, _, xo8, xv8⟩, ⟨_, _, _, xe8⟩, PySem.W.mg_none_of X G xsup, xtop, xany, xa8⟩
  have kb8 : BadK K C8 I8 := ⟨bc8.cls, xi8, xt8, xk8, xb8, xy8⟩
  have in8 : Init0 l.prog K mg C8 I8 := init0_of so8 bc8 (fun s x => .of_eq rfl)
  have KT : ∀ c j b, isT 9 c j = some b → PySem.W.kitOne K (.ref ((fun i => match i with | 0 => C0 | 1 => C1 | 2 => C2 | 3 => C3 | 4 => C4 | 5 => C5 | 6 => C6 | 7 => C7 | 8 => C8 | _ => C9) c)) (.ref ((fun i => match i with | 0 => C0 | 1 => C1 | 2 => C2 | 3 => C3 | 4 => C4 | 5 => C5 | 6 => C6 | 7 => C7 | 8 => C8 | _ => C9) j)) = some b ∧ ExcA K ((fun i => match i with | 0 => C0 | 1 => C1 | 2 => C2 | 3 => C3 | 4 => C4 | 5 => C5 | 6 => C6 | 7 => C7 | 8 => C8 | _ => C9) c) := by
    intro c j b h
    have hc := isT_le h
    match c, j, hc, h with
    | 0, 0, _, h => cases h; exact ⟨kt0_0, ea0⟩
    | 0, 1, _, h => cases h; exact ⟨kt0_1, ea0⟩
    | 0, 2, _, h => cases h; exact ⟨kt0_2, ea0⟩
    | 0, 3, _, h => cases h; exact ⟨kt0_3, ea0⟩
    | 0, 4, _, h => cases h; exact ⟨kt0_4, ea0⟩
    | 0, 5, _, h => cases h; exact ⟨kt0_5, ea0⟩
    | 0, 6, _, h => cases h; exact ⟨kt0_6, ea0⟩
    | 0, 7, _, h => cases h; exact ⟨kt0_7, ea0⟩
    | 0, 8, _, h => cases h; exact ⟨kt0_8, ea0⟩
    | 0, 9, _, h => cases h; exact ⟨kt0_9, ea0⟩
    | 1, 0, _, h => cases h; exact ⟨kt1_0, ea1⟩
    | 1, 1, _, h => cases h; exact ⟨kt1_1, ea1⟩
    | 1, 2, _, h => cases h; exact ⟨kt1_2, ea1⟩
    | 1, 3, _, h => cases h; exact ⟨kt1_3, ea1⟩
    | 1, 4, _, h => cases h; exact ⟨kt1_4, ea1⟩
    | 1, 5, _, h => cases h; exact ⟨kt1_5, ea1⟩
    | 1, 6, _, h => cases h; exact ⟨kt1_6, ea1⟩
    | 1, 7, _, h => cases h; exact ⟨kt1_7, ea1⟩
    | 1, 8, _, h => cases h; exact ⟨kt1_8, ea1⟩
    | 1, 9, _, h => cases h; exact ⟨kt1_9, ea1⟩
    | 2, 0, _, h => cases h; exact ⟨kt2_0, ea2⟩
    | 2, 1, _, h => cases h; exact ⟨kt2_1, ea2⟩
    | 2, 2, _, h => cases h; exact ⟨kt2_2, ea2⟩
    | 2, 3, _, h => cases h; exact ⟨kt2_3, ea2⟩
    | 2, 4, _, h => cases h; exact ⟨kt2_4, ea2⟩
    | 2, 5, _, h => cases h; exact ⟨kt2_5, ea2⟩
    | 2, 6, _, h => cases h; exact ⟨kt2_6, ea2⟩
    | 2, 7, _, h => cases h; exact ⟨kt2_7, ea2⟩
    | 2, 8, _, h => cases h; exact ⟨kt2_8, ea2⟩
    | 2, 9, _, h => cases h; exact ⟨kt2_9, ea2⟩
    | 3, 0, _, h => cases h; exact ⟨kt3_0, ea3⟩
    | 3, 1, _, h => cases h; exact ⟨kt3_1, ea3⟩
    | 3, 2, _, h => cases h; exact ⟨kt3_2, ea3⟩
    | 3, 3, _, h => cases h; exact ⟨kt3_3, ea3⟩
    | 3, 4, _, h => cases h; exact ⟨kt3_4, ea3⟩
    | 3, 5, _, h => cases h; exact ⟨kt3_5, ea3⟩
    | 3, 6, _, h => cases h; exact ⟨kt3_6, ea3⟩
    | 3, 7, _, h => cases h; exact ⟨kt3_7, ea3⟩
    | 3, 8, _, h => cases h; exact ⟨kt3_8, ea3⟩
    | 3, 9, _, h => cases h; exact ⟨kt3_9, ea3⟩
    | 4, 0, _, h => cases h; exact ⟨kt4_0, ea4⟩
    | 4, 1, _, h => cases h; exact ⟨kt4_1, ea4⟩
    | 4, 2, _, h => cases h; exact ⟨kt4_2, ea4⟩
    | 4, 3, _, h => cases h; exact ⟨kt4_3, ea4⟩
    | 4, 4, _, h => cases h; exact ⟨kt4_4, ea4⟩
    | 4, 5, _, h => cases h; exact ⟨kt4_5, ea4⟩
    | 4, 6, _, h => cases h; exact ⟨kt4_6, ea4⟩
    | 4, 7, _, h => cases h; exact ⟨kt4_7, ea4⟩
    | 4, 8, _, h => cases h; exact ⟨kt4_8, ea4⟩
    | 4, 9, _, h => cases h; exact ⟨kt4_9, ea4⟩
    | 5, 0, _, h => cases h; exact ⟨kt5_0, ea5⟩
    | 5, 1, _, h => cases h; exact ⟨kt5_1, ea5⟩
    | 5, 2, _, h => cases h; exact ⟨kt5_2, ea5⟩
    | 5, 3, _, h => cases h; exact ⟨kt5_3, ea5⟩
    | 5, 4, _, h => cases h; exact ⟨kt5_4, ea5⟩
    | 5, 5, _, h => cases h; exact ⟨kt5_5, ea5⟩
    | 5, 6, _, h => cases h; exact ⟨kt5_6, ea5⟩
    | 5, 7, _, h => cases h; exact ⟨kt5_7, ea5⟩
    | 5, 8, _, h => cases h; exact ⟨kt5_8, ea5⟩
    | 5, 9, _, h => cases h; exact ⟨kt5_9, ea5⟩
    | 6, 0, _, h => cases h; exact ⟨kt6_0, ea6⟩
    | 6, 1, _, h => cases h; exact ⟨kt6_1, ea6⟩
    | 6, 2, _, h => cases h; exact ⟨kt6_2, ea6⟩
    | 6, 3, _, h => cases h; exact ⟨kt6_3, ea6⟩
    | 6, 4, _, h => cases h; exact ⟨kt6_4, ea6⟩
    | 6, 5, _, h => cases h; exact ⟨kt6_5, ea6⟩
    | 6, 6, _, h => cases h; exact ⟨kt6_6, ea6⟩
    | 6, 7, _, h => cases h; exact ⟨kt6_7, ea6⟩
    | 6, 8, _, h => cases h; exact ⟨kt6_8, ea6⟩
    | 6, 9, _, h => cases h; exact ⟨kt6_9, ea6⟩
    | 7, 0, _, h => cases h; exact ⟨kt7_0, ea7⟩
    | 7, 1, _, h => cases h; exact ⟨kt7_1, ea7⟩
    | 7, 2, _, h => cases h; exact ⟨kt7_2, ea7⟩
    | 7, 3, _, h => cases h; exact ⟨kt7_3, ea7⟩
    | 7, 4, _, h => cases h; exact ⟨kt7_4, ea7⟩
    | 7, 5, _, h => cases h; exact ⟨kt7_5, ea7⟩
    | 7, 6, _, h => cases h; exact ⟨kt7_6, ea7⟩
    | 7, 7, _, h => cases h; exact ⟨kt7_7, ea7⟩
    | 7, 8, _, h => cases h; exact ⟨kt7_8, ea7⟩
    | 7, 9, _, h => cases h; exact ⟨kt7_9, ea7⟩
    | 8, 0, _, h => cases h; exact ⟨kt8_0, ea8⟩
    | 8, 1, _, h => cases h; exact ⟨kt8_1, ea8⟩
    | 8, 2, _, h => cases h; exact ⟨kt8_2, ea8⟩
    | 8, 3, _, h => cases h; exact ⟨kt8_3, ea8⟩
    | 8, 4, _, h => cases h; exact ⟨kt8_4, ea8⟩
    | 8, 5, _, h => cases h; exact ⟨kt8_5, ea8⟩
    | 8, 6, _, h => cases h; exact ⟨kt8_6, ea8⟩
    | 8, 7, _, h => cases h; exact ⟨kt8_7, ea8⟩
    | 8, 8, _, h => cases h; exact ⟨kt8_8, ea8⟩
    | 8, 9, _, h => cases h; exact ⟨kt8_9, ea8⟩
    | 9, 0, _, h => cases h; exact ⟨kt9_0, ea9⟩
    | 9, 1, _, h => cases h; exact ⟨kt9_1, ea9⟩
    | 9, 2, _, h => cases h; exact ⟨kt9_2, ea9⟩
    | 9, 3, _, h => cases h; exact ⟨kt9_3, ea9⟩
    | 9, 4, _, h => cases h; exact ⟨kt9_4, ea9⟩
    | 9, 5, _, h => cases h; exact ⟨kt9_5, ea9⟩
    | 9, 6, _, h => cases h; exact ⟨kt9_6, ea9⟩
    | 9, 7, _, h => cases h; exact ⟨kt9_7, ea9⟩
    | 9, 8, _, h => cases h; exact ⟨kt9_8, ea9⟩
    | 9, 9, _, h => cases h; exact ⟨kt9_9, ea9⟩
    | (c + 10), j, hc, h => exact absurd hc.1 (by omega)
    | c, (j + 10), hc, h => exact absurd hc.2 (by omega)
  have KE : ∀ c b, isE 9 c = some b → PySem.W.kitOne K (.ref ((fun i => match i with | 0 => C0 | 1 => C1 | 2 => C2 | 3 => C3 | 4 => C4 | 5 => C5 | 6 => C6 | 7 => C7 | 8 => C8 | _ => C9) c)) (.type "Exception") = some b ∧ ExcA K ((fun i => match i with | 0 => C0 | 1 => C1 | 2 => C2 | 3 => C3 | 4 => C4 | 5 => C5 | 6 => C6 | 7 => C7 | 8 => C8 | _ => C9) c) := by
    intro c b h
    have hc := isE_le h
    match c, hc, h with
    | 0, _, h => cases h; exact ⟨ke0, ea0⟩
    | 1, _, h => cases h; exact ⟨ke1, ea1⟩
    | 2, _, h => cases h; exact ⟨ke2, ea2⟩
    | 3, _, h => cases h; exact ⟨ke3, ea3⟩
    | 4, _, h => cases h; exact ⟨ke4, ea4⟩
    | 5, _, h => cases h; exact ⟨ke5, ea5⟩
    | 6, _, h => cases h; exact ⟨ke6, ea6⟩
    | 7, _, h => cases h; exact ⟨ke7, ea7⟩
    | 8, _, h => cases h; exact ⟨ke8, ea8⟩
    | 9, _, h => cases h; exact ⟨ke9, ea9⟩
    | (c + 10), hc, h => exact absurd hc (by omega)
  have XM : ∀ c, c < 9 → PySem.W.exmOne K (.ref ((fun i => match i with | 0 => C0 | 1 => C1 | 2 => C2 | 3 => C3 | 4 => C4 | 5 => C5 | 6 => C6 | 7 => C7 | 8 => C8 | _ => C9) c)) (.ref C9) = some true := by
    intro c hc
    match c, hc with
    | 0, _ => exact xm0
    | 1, _ => exact xm1
    | 2, _ => exact xm2
    | 3, _ => exact xm3
    | 4, _ => exact xm4
    | 5, _ => exact xm5
    | 6, _ => exact xm6
    | 7, _ => exact xm7
    | 8, _ => exact xm8
    | (c + 9), hc => exact absurd hc (by omega)
  have T : Txt l.prog K mg (fun i => match i with | 0 => f0 | 1 => f1 | 2 => f2 | 3 => f3 | 4 => f4 | 5 => f5 | 6 => f6 | 7 => f7 | _ => f0) (fun i => match i with | 0 => C0 | 1 => C1 | 2 => C2 | 3 => C3 | 4 => C4 | 5 => C5 | 6 => C6 | 7 => C7 | 8 => C8 | _ => C9) (fun i => match i with | 0 => ["part"] | 1 => ["line"] | 2 => ["conflict"] | 3 => ["divergence"] | 4 => ["letter"] | 5 => ["text"] | _ => []) (fun i => match i with | 0 => I0 | 1 => I1 | 2 => I2 | 3 => I3 | 4 => I4 | 5 => I5 | 6 => I6 | 7 => I7 | 8 => I8 | _ => I0) := ⟨PySem.W.mg_none_of X G z_Exception, PySem.W.mg_none_of X G z_int, PySem.W.mg_none_of X G z_isinstance, PySem.W.mg_none_of X G z_len, PySem.W.mg_none_of X G z_list, PySem.W.mg_none_of X G z_range, PySem.W.mg_none_of X G z_repr, PySem.W.mg_of X G a6, k6, PySem.W.mg_of X G a1, k1, PySem.W.mg_of X G a4, k4, PySem.W.mg_of X G a5, k5, PySem.W.mg_of X G a3, k3, PySem.W.mg_of X G a2, k2, PySem.W.mg_of X G a0, k0, PySem.W.mg_of X G xg0, kb0, in0, rfl, xn0, ea0, PySem.W.mg_of X G xg1, kb1, in1, rfl, xn1, ea1, PySem.W.mg_of X G xg2, kb2, in2, rfl, xn2, ea2, PySem.W.mg_of X G xg3, kb3, in3, rfl, xn3, ea3, PySem.W.mg_of X G xg4, kb4, in4, rfl, xn4, ea4, PySem.W.mg_of X G xg5, kb5, in5, rfl, xn5, ea5, PySem.W.mg_of X G xg6, kb6, in6, PySem.W.mg_of X G xg7, kb7, in7, PySem.W.mg_of X G xg8, kb8, in8, PySem.W.mg_of X G xg9, xpx, xk9, fun {X} hX => raises_own (X := X) (by rw [hX]; exact xb9) (by rw [hX]; exact xy9), KT, KE, XM⟩
  have F0 := fun_mk (st := s_l_deck) l0 c0 k0
  have F1 := fun_mk (st := s_l_draw) l1 c1 k1
  have F3 := fun_mk (st := s_l_made) l3 c3 k3
  have F4 := fun_mk (st := s_l_kept) l4 c4 k4
  have F5 := fun_mk (st := s_l_kinds) l5 c5 k5
  have F2 := fun_mk (st := s_l_pick) l2 c2 k2
  have F6 := fun_mk (st := s_l_caught) l6 c6 k6
  have F7 := fun_mk (st := s_law) l7 c7 k7
  refine ⟨PySem.W.fnOf "law" "law" (defArgs s_law) (defBody s_law) (defScope s_law) .none kV7 dc7 pm7 an7 cd7 ct7, fun s v => .of_eq rfl, fun base _ _ => ?_⟩
  have O_l_draw : ∀ dk : Option (Addr × Addr), FnG l.prog w K mg base 1 f1 _ ["_law_deck_here", "_law_below"] (Sp3 ⟨K, dk, (fun i => match i with | 0 => C0 | 1 => C1 | 2 => C2 | 3 => C3 | 4 => C4 | 5 => C5 | 6 => C6 | 7 => C7 | 8 => C8 | _ => C9), (fun i => match i with | 0 => ["part"] | 1 => ["line"] | 2 => ["conflict"] | 3 => ["divergence"] | 4 => ["letter"] | 5 => ["text"] | _ => [])⟩ 2 m_l_draw) := fun dk => ok_l_draw F1 T
  have G_l_draw : ∀ dk : Option (Addr × Addr), PosG l.prog w K mg base 1 f1 (Sp3 ⟨K, dk, (fun i => match i with | 0 => C0 | 1 => C1 | 2 => C2 | 3 => C3 | 4 => C4 | 5 => C5 | 6 => C6 | 7 => C7 | 8 => C8 | _ => C9), (fun i => match i with | 0 => ["part"] | 1 => ["line"] | 2 => ["conflict"] | 3 => ["divergence"] | 4 => ["letter"] | 5 => ["text"] | _ => [])⟩ 2 m_l_draw) := fun dk => (O_l_draw dk).pos (fun _ _ _ _ h => sp3_len h) (F1.binds (ps := ["_law_deck_here", "_law_below"]) fun _ _ _ _ _ _ us hl => match us, hl with | [_, _], _ => rfl)
  have O_l_made : ∀ dk : Option (Addr × Addr), FnG l.prog w K mg base 1 f3 _ ["_law_at", "_law_it"] (Sp3 ⟨K, dk, (fun i => match i with | 0 => C0 | 1 => C1 | 2 => C2 | 3 => C3 | 4 => C4 | 5 => C5 | 6 => C6 | 7 => C7 | 8 => C8 | _ => C9), (fun i => match i with | 0 => ["part"] | 1 => ["line"] | 2 => ["conflict"] | 3 => ["divergence"] | 4 => ["letter"] | 5 => ["text"] | _ => [])⟩ 2 m_l_made) := fun dk => ok_l_made F3 T
  have G_l_made : ∀ dk : Option (Addr × Addr), PosG l.prog w K mg base 1 f3 (Sp3 ⟨K, dk, (fun i => match i with | 0 => C0 | 1 => C1 | 2 => C2 | 3 => C3 | 4 => C4 | 5 => C5 | 6 => C6 | 7 => C7 | 8 => C8 | _ => C9), (fun i => match i with | 0 => ["part"] | 1 => ["line"] | 2 => ["conflict"] | 3 => ["divergence"] | 4 => ["letter"] | 5 => ["text"] | _ => [])⟩ 2 m_l_made) := fun dk => (O_l_made dk).pos (fun _ _ _ _ h => sp3_len h) (F3.binds (ps := ["_law_at", "_law_it"]) fun _ _ _ _ _ _ us hl => match us, hl with | [_, _], _ => rfl)
  have O_l_kept : ∀ dk : Option (Addr × Addr), FnG l.prog w K mg base 1 f4 _ ["_law_at", "_law_e"] (Sp3 ⟨K, dk, (fun i => match i with | 0 => C0 | 1 => C1 | 2 => C2 | 3 => C3 | 4 => C4 | 5 => C5 | 6 => C6 | 7 => C7 | 8 => C8 | _ => C9), (fun i => match i with | 0 => ["part"] | 1 => ["line"] | 2 => ["conflict"] | 3 => ["divergence"] | 4 => ["letter"] | 5 => ["text"] | _ => [])⟩ 2 m_l_kept) := fun dk => ok_l_kept F4 T
  have G_l_kept : ∀ dk : Option (Addr × Addr), PosG l.prog w K mg base 1 f4 (Sp3 ⟨K, dk, (fun i => match i with | 0 => C0 | 1 => C1 | 2 => C2 | 3 => C3 | 4 => C4 | 5 => C5 | 6 => C6 | 7 => C7 | 8 => C8 | _ => C9), (fun i => match i with | 0 => ["part"] | 1 => ["line"] | 2 => ["conflict"] | 3 => ["divergence"] | 4 => ["letter"] | 5 => ["text"] | _ => [])⟩ 2 m_l_kept) := fun dk => (O_l_kept dk).pos (fun _ _ _ _ h => sp3_len h) (F4.binds (ps := ["_law_at", "_law_e"]) fun _ _ _ _ _ _ us hl => match us, hl with | [_, _], _ => rfl)
  have H_l_kept : ∀ dk : Option (Addr × Addr), PosH l.prog w K mg base 1 f4 fun x1 => Sp3 ⟨K, dk, (fun i => match i with | 0 => C0 | 1 => C1 | 2 => C2 | 3 => C3 | 4 => C4 | 5 => C5 | 6 => C6 | 7 => C7 | 8 => C8 | _ => C9), (fun i => match i with | 0 => ["part"] | 1 => ["line"] | 2 => ["conflict"] | 3 => ["divergence"] | 4 => ["letter"] | 5 => ["text"] | _ => [])⟩ 2 (mH_l_kept x1) := fun dk => okH_l_kept F4 T (F4.binds (ps := ["_law_at", "_law_e"]) fun _ _ _ _ _ _ us hl => match us, hl with | [_, _], _ => rfl)
  have O_l_kinds : ∀ dk : Option (Addr × Addr), FnG l.prog w K mg base 1 f5 _ ["_law_e"] (Sp3 ⟨K, dk, (fun i => match i with | 0 => C0 | 1 => C1 | 2 => C2 | 3 => C3 | 4 => C4 | 5 => C5 | 6 => C6 | 7 => C7 | 8 => C8 | _ => C9), (fun i => match i with | 0 => ["part"] | 1 => ["line"] | 2 => ["conflict"] | 3 => ["divergence"] | 4 => ["letter"] | 5 => ["text"] | _ => [])⟩ 1 m_l_kinds) := fun dk => ok_l_kinds F5 T
  have G_l_kinds : ∀ dk : Option (Addr × Addr), PosG l.prog w K mg base 1 f5 (Sp3 ⟨K, dk, (fun i => match i with | 0 => C0 | 1 => C1 | 2 => C2 | 3 => C3 | 4 => C4 | 5 => C5 | 6 => C6 | 7 => C7 | 8 => C8 | _ => C9), (fun i => match i with | 0 => ["part"] | 1 => ["line"] | 2 => ["conflict"] | 3 => ["divergence"] | 4 => ["letter"] | 5 => ["text"] | _ => [])⟩ 1 m_l_kinds) := fun dk => (O_l_kinds dk).pos (fun _ _ _ _ h => sp3_len h) (F5.binds (ps := ["_law_e"]) fun _ _ _ _ _ _ us hl => match us, hl with | [_], _ => rfl)
  have H_l_kinds : ∀ dk : Option (Addr × Addr), PosH l.prog w K mg base 1 f5 fun x1 => Sp3 ⟨K, dk, (fun i => match i with | 0 => C0 | 1 => C1 | 2 => C2 | 3 => C3 | 4 => C4 | 5 => C5 | 6 => C6 | 7 => C7 | 8 => C8 | _ => C9), (fun i => match i with | 0 => ["part"] | 1 => ["line"] | 2 => ["conflict"] | 3 => ["divergence"] | 4 => ["letter"] | 5 => ["text"] | _ => [])⟩ 1 (mH_l_kinds x1) := fun dk => okH_l_kinds F5 T (F5.binds (ps := ["_law_e"]) fun _ _ _ _ _ _ us hl => match us, hl with | [_], _ => rfl)
  have O_l_pick : ∀ dk : Option (Addr × Addr), FnG l.prog w K mg base 2 f2 _ ["_law_deck_here", "_law_some"] (Sp3 ⟨K, dk, (fun i => match i with | 0 => C0 | 1 => C1 | 2 => C2 | 3 => C3 | 4 => C4 | 5 => C5 | 6 => C6 | 7 => C7 | 8 => C8 | _ => C9), (fun i => match i with | 0 => ["part"] | 1 => ["line"] | 2 => ["conflict"] | 3 => ["divergence"] | 4 => ["letter"] | 5 => ["text"] | _ => [])⟩ 2 m_l_pick) := fun dk => ok_l_pick F2 T (G_l_draw dk)
  have G_l_pick : ∀ dk : Option (Addr × Addr), PosG l.prog w K mg base 2 f2 (Sp3 ⟨K, dk, (fun i => match i with | 0 => C0 | 1 => C1 | 2 => C2 | 3 => C3 | 4 => C4 | 5 => C5 | 6 => C6 | 7 => C7 | 8 => C8 | _ => C9), (fun i => match i with | 0 => ["part"] | 1 => ["line"] | 2 => ["conflict"] | 3 => ["divergence"] | 4 => ["letter"] | 5 => ["text"] | _ => [])⟩ 2 m_l_pick) := fun dk => (O_l_pick dk).pos (fun _ _ _ _ h => sp3_len h) (F2.binds (ps := ["_law_deck_here", "_law_some"]) fun _ _ _ _ _ _ us hl => match us, hl with | [_, _], _ => rfl)
  have O_l_caught : ∀ dk : Option (Addr × Addr), FnG l.prog w K mg base 2 f6 _ ["_law_at", "_law_it"] (Sp3 ⟨K, dk, (fun i => match i with | 0 => C0 | 1 => C1 | 2 => C2 | 3 => C3 | 4 => C4 | 5 => C5 | 6 => C6 | 7 => C7 | 8 => C8 | _ => C9), (fun i => match i with | 0 => ["part"] | 1 => ["line"] | 2 => ["conflict"] | 3 => ["divergence"] | 4 => ["letter"] | 5 => ["text"] | _ => [])⟩ 2 m_l_caught) := fun dk => ok_l_caught F6 T (H_l_kept dk) (H_l_kinds dk)
  have G_l_caught : ∀ dk : Option (Addr × Addr), PosG l.prog w K mg base 2 f6 (Sp3 ⟨K, dk, (fun i => match i with | 0 => C0 | 1 => C1 | 2 => C2 | 3 => C3 | 4 => C4 | 5 => C5 | 6 => C6 | 7 => C7 | 8 => C8 | _ => C9), (fun i => match i with | 0 => ["part"] | 1 => ["line"] | 2 => ["conflict"] | 3 => ["divergence"] | 4 => ["letter"] | 5 => ["text"] | _ => [])⟩ 2 m_l_caught) := fun dk => (O_l_caught dk).pos (fun _ _ _ _ h => sp3_len h) (F6.binds (ps := ["_law_at", "_law_it"]) fun _ _ _ _ _ _ us hl => match us, hl with | [_, _], _ => rfl)
  have OD := deckFn (P := l.prog) (w := w) (mg := mg) (base := base) (k := 0) (b0 := 10858011) (g := g_l_deck) (fe := f_l_deck) F0 sc_l_deck rfl (fun cdv A outer s H => ps_deck0 1 2 rfl sc_l_deck.nd rfl T.b_list) (fun cdv A outer s H hr hgd => body_l_deck T hr hgd) (fun cdv A outer s H hr hgd => disp_l_deck T hr hgd) deck_plain
  have GD := OD.pos (fun vs H Q E h => by obtain ⟨a, ns, e, _⟩ := h; rw [e]; rfl) (F0.binds (ps := ["_law_script"]) fun _ _ _ _ _ _ us hl => match us, hl with | [_], _ => rfl)
  exact lawFn (N0 := 6) (kd := 1) (k := 2) F7 sc_law rfl rfl GD (by decide) T.c_l_deck T.k_l_deck (by decide) (by decide) (by decide) (fun _ _ _ _ _ => rfl) (by first | exact Or.inl rfl | exact Or.inr (Or.inl rfl)) (by first | exact Or.inl rfl | exact Or.inr rfl) (fun _ _ _ _ _ => rfl) (fun dk cdv A outer s H hr hgd => body_law T (G_l_caught dk) (G_l_kept dk) (G_l_kinds dk) (G_l_made dk) (G_l_pick dk) hr hgd) law_plain
end K01
open PySem PySem.W PyProof.Rows
set_option maxRecDepth 100000 in
set_option maxHeartbeats 0 in
theorem PySem.Challenge.cw_onegoing_k01_errors_holds : PySem.Challenge.rw_onegoing_k01_errors.Holds := by
  w_on; o_law; k_head; (case hw => w_witness2)
  k_fill
  refine L3.walkG (l := PySem.Challenge.rw_onegoing_k01_errors) (n := 63) (k := 3) (x := "_law_script") (sp := fun K => L3.spLaw K) rfl (by decide) rfl ⟨rfl, by decide, by decide⟩ (fun w h Y => PySem.W.kIn_of Y) ?F fun K H a ns hl _ hS => ⟨a, ns, rfl, hS, hl, fun _ => rfl⟩
  case F =>
    intro w mg fa h KX G hmg
    refine' K01.all_mk KX G hmg ?a0 ?l0 ?c0 ?k0 ?a1 ?l1 ?c1 ?k1 ?a3 ?l3 ?c3 ?k3 ?a4 ?l4 ?c4 ?k4 ?a5 ?l5 ?c5 ?k5 ?a2 ?l2 ?c2 ?k2 ?a6 ?l6 ?c6 ?k6 ?a7 ?l7 ?c7 ?k7 ?z_Exception ?z_int ?z_isinstance ?z_len ?z_list ?z_range ?z_repr ?xsup ?xany ?xtop ?xdg ?xtk ?xg0 ?xk0 ?xb0 ?xy0 ?xga0 ?xgg0 ?xhd0 ?xac0 ?xmo0 ?xg1 ?xk1 ?xb1 ?xy1 ?xga1 ?xgg1 ?xhd1 ?xac1 ?xmo1 ?xg2 ?xk2 ?xb2 ?xy2 ?xga2 ?xgg2 ?xhd2 ?xac2 ?xmo2 ?xg3 ?xk3 ?xb3 ?xy3 ?xga3 ?xgg3 ?xhd3 ?xac3 ?xmo3 ?xg4 ?xk4 ?xb4 ?xy4 ?xga4 ?xgg4 ?xhd4 ?xac4 ?xmo4 ?xg5 ?xk5 ?xb5 ?xy5 ?xga5 ?xgg5 ?xhd5 ?xac5 ?xmo5 ?xg6 ?xk6 ?xb6 ?xy6 ?xga6 ?xgg6 ?xhd6 ?xac6 ?xmo6 ?xg7 ?xk7 ?xb7 ?xy7 ?xga7 ?xgg7 ?xhd7 ?xac7 ?xmo7 ?xg8 ?xk8 ?xb8 ?xy8 ?xga8 ?xgg8 ?xhd8 ?xac8 ?xmo8 ?xg9 ?xk9 ?xb9 ?xy9 ?xga9 ?xgg9 ?xhd9 ?xac9 ?xmo9 ?xpx ?xl0 ?xi0 ?xt0 ?xf0 ?xc0 ?xo0 ?xv0 ?xe0 ?xa0 ?xs0 ?xn0 ?xl1 ?xi1 ?xt1 ?xf1 ?xc1 ?xo1 ?xv1 ?xe1 ?xa1 ?xs1 ?xn1 ?xl2 ?xi2 ?xt2 ?xf2 ?xc2 ?xo2 ?xv2 ?xe2 ?xa2 ?xs2 ?xn2 ?xl3 ?xi3 ?xt3 ?xf3 ?xc3 ?xo3 ?xv3 ?xe3 ?xa3 ?xs3 ?xn3 ?xl4 ?xi4 ?xt4 ?xf4 ?xc4 ?xo4 ?xv4 ?xe4 ?xa4 ?xs4 ?xn4 ?xl5 ?xi5 ?xt5 ?xf5 ?xc5 ?xo5 ?xv5 ?xe5 ?xa5 ?xs5 ?xn5 ?xl6 ?xi6 ?xt6 ?xf6 ?xc6 ?xo6 ?xv6 ?xe6 ?xa6 ?xl7 ?xi7 ?xt7 ?xf7 ?xc7 ?xo7 ?xv7 ?xe7 ?xa7 ?xl8 ?xi8 ?xt8 ?xf8 ?xc8 ?xo8 ?xv8 ?xe8 ?xa8 ?kt0_0 ?kt0_1 ?kt0_2 ?kt0_3 ?kt0_4 ?kt0_5 ?kt0_6 ?kt0_7 ?kt0_8 ?kt0_9 ?ke0 ?kt1_0 ?kt1_1 ?kt1_2 ?kt1_3 ?kt1_4 ?kt1_5 ?kt1_6 ?kt1_7 ?kt1_8 ?kt1_9 ?ke1 ?kt2_0 ?kt2_1 ?kt2_2 ?kt2_3 ?kt2_4 ?kt2_5 ?kt2_6 ?kt2_7 ?kt2_8 ?kt2_9 ?ke2 ?kt3_0 ?kt3_1 ?kt3_2 ?kt3_3 ?kt3_4 ?kt3_5 ?kt3_6 ?kt3_7 ?kt3_8 ?kt3_9 ?ke3 ?kt4_0 ?kt4_1 ?kt4_2 ?kt4_3 ?kt4_4 ?kt4_5 ?kt4_6 ?kt4_7 ?kt4_8 ?kt4_9 ?ke4 ?kt5_0 ?kt5_1 ?kt5_2 ?kt5_3 ?kt5_4 ?kt5_5 ?kt5_6 ?kt5_7 ?kt5_8 ?kt5_9 ?ke5 ?kt6_0 ?kt6_1 ?kt6_2 ?kt6_3 ?kt6_4 ?kt6_5 ?kt6_6 ?kt6_7 ?kt6_8 ?kt6_9 ?ke6 ?kt7_0 ?kt7_1 ?kt7_2 ?kt7_3 ?kt7_4 ?kt7_5 ?kt7_6 ?kt7_7 ?kt7_8 ?kt7_9 ?ke7 ?kt8_0 ?kt8_1 ?kt8_2 ?kt8_3 ?kt8_4 ?kt8_5 ?kt8_6 ?kt8_7 ?kt8_8 ?kt8_9 ?ke8 ?kt9_0 ?kt9_1 ?kt9_2 ?kt9_3 ?kt9_4 ?kt9_5 ?kt9_6 ?kt9_7 ?kt9_8 ?kt9_9 ?ke9 ?xm0 ?xm1 ?xm2 ?xm3 ?xm4 ?xm5 ?xm6 ?xm7 ?xm8
    (case a0 => k_is)
    (case l0 => k_is)
    (case c0 => k_is)
    (case k0 => k_is)
    (case a1 => k_is)
    (case l1 => k_is)
    (case c1 => k_is)
    (case k1 => k_is)
    (case a3 => k_is)
    (case l3 => k_is)
    (case c3 => k_is)
    (case k3 => k_is)
    (case a4 => k_is)
    (case l4 => k_is)
    (case c4 => k_is)
    (case k4 => k_is)
    (case a5 => k_is)
    (case l5 => k_is)
    (case c5 => k_is)
    (case k5 => k_is)
    (case a2 => k_is)
    (case l2 => k_is)
    (case c2 => k_is)
    (case k2 => k_is)
    (case a6 => k_is)
    (case l6 => k_is)
    (case c6 => k_is)
    (case k6 => k_is)
    (case a7 => k_is)
    (case l7 => k_is)
    (case c7 => k_is)
    (case k7 => k_is)
    (case z_Exception => k_is)
    (case z_int => k_is)
    (case z_isinstance => k_is)
    (case z_len => k_is)
    (case z_list => k_is)
    (case z_range => k_is)
    (case z_repr => k_is)
    (case xsup => k_is)
    (case xany => k_is)
    (case xtop => rfl)
    (case xdg => k_is)
    (case xtk => k_is)
    (case xg0 => k_is)
    (case xk0 => k_is)
    (case xb0 => k_is)
    (case xy0 => k_is)
    (case xga0 => k_is)
    (case xgg0 => k_is)
    (case xhd0 => k_is)
    (case xac0 => k_is)
    (case xmo0 => k_is)
    (case xg1 => k_is)
    (case xk1 => k_is)
    (case xb1 => k_is)
    (case xy1 => k_is)
    (case xga1 => k_is)
    (case xgg1 => k_is)
    (case xhd1 => k_is)
    (case xac1 => k_is)
    (case xmo1 => k_is)
    (case xg2 => k_is)
    (case xk2 => k_is)
    (case xb2 => k_is)
    (case xy2 => k_is)
    (case xga2 => k_is)
    (case xgg2 => k_is)
    (case xhd2 => k_is)
    (case xac2 => k_is)
    (case xmo2 => k_is)
    (case xg3 => k_is)
    (case xk3 => k_is)
    (case xb3 => k_is)
    (case xy3 => k_is)
    (case xga3 => k_is)
    (case xgg3 => k_is)
    (case xhd3 => k_is)
    (case xac3 => k_is)
    (case xmo3 => k_is)
    (case xg4 => k_is)
    (case xk4 => k_is)
    (case xb4 => k_is)
    (case xy4 => k_is)
    (case xga4 => k_is)
    (case xgg4 => k_is)
    (case xhd4 => k_is)
    (case xac4 => k_is)
    (case xmo4 => k_is)
    (case xg5 => k_is)
    (case xk5 => k_is)
    (case xb5 => k_is)
    (case xy5 => k_is)
    (case xga5 => k_is)
    (case xgg5 => k_is)
    (case xhd5 => k_is)
    (case xac5 => k_is)
    (case xmo5 => k_is)
    (case xg6 => k_is)
    (case xk6 => k_is)
    (case xb6 => k_is)
    (case xy6 => k_is)
    (case xga6 => k_is)
    (case xgg6 => k_is)
    (case xhd6 => k_is)
    (case xac6 => k_is)
    (case xmo6 => k_is)
    (case xg7 => k_is)
    (case xk7 => k_is)
    (case xb7 => k_is)
    (case xy7 => k_is)
    (case xga7 => k_is)
    (case xgg7 => k_is)
    (case xhd7 => k_is)
    (case xac7 => k_is)
    (case xmo7 => k_is)
    (case xg8 => k_is)
    (case xk8 => k_is)
    (case xb8 => k_is)
    (case xy8 => k_is)
    (case xga8 => k_is)
    (case xgg8 => k_is)
    (case xhd8 => k_is)
    (case xac8 => k_is)
    (case xmo8 => k_is)
    (case xg9 => k_is)
    (case xk9 => k_is)
    (case xb9 => k_is)
    (case xy9 => k_is)
    (case xga9 => k_is)
    (case xgg9 => k_is)
    (case xhd9 => k_is)
    (case xac9 => k_is)
    (case xmo9 => k_is)
    (case xpx => first | k_exc | k_is)
    (case xl0 => k_is)
    (case xi0 => k_is)
    (case xt0 => k_is)
    (case xf0 => k_is)
    (case xc0 => k_is)
    (case xo0 => k_is)
    (case xv0 => rfl)
    (case xe0 => k_is)
    (case xa0 => first | ks_is | k_is)
    (case xs0 => k_is)
    (case xn0 => k_is)
    (case xl1 => k_is)
    (case xi1 => k_is)
    (case xt1 => k_is)
    (case xf1 => k_is)
    (case xc1 => k_is)
    (case xo1 => k_is)
    (case xv1 => rfl)
    (case xe1 => k_is)
    (case xa1 => first | ks_is | k_is)
    (case xs1 => k_is)
    (case xn1 => k_is)
    (case xl2 => k_is)
    (case xi2 => k_is)
    (case xt2 => k_is)
    (case xf2 => k_is)
    (case xc2 => k_is)
    (case xo2 => k_is)
    (case xv2 => rfl)
    (case xe2 => k_is)
    (case xa2 => first | ks_is | k_is)
    (case xs2 => k_is)
    (case xn2 => k_is)
    (case xl3 => k_is)
    (case xi3 => k_is)
    (case xt3 => k_is)
    (case xf3 => k_is)
    (case xc3 => k_is)
    (case xo3 => k_is)
    (case xv3 => rfl)
    (case xe3 => k_is)
    (case xa3 => first | ks_is | k_is)
    (case xs3 => k_is)
    (case xn3 => k_is)
    (case xl4 => k_is)
    (case xi4 => k_is)
    (case xt4 => k_is)
    (case xf4 => k_is)
    (case xc4 => k_is)
    (case xo4 => k_is)
    (case xv4 => rfl)
    (case xe4 => k_is)
    (case xa4 => first | ks_is | k_is)
    (case xs4 => k_is)
    (case xn4 => k_is)
    (case xl5 => k_is)
    (case xi5 => k_is)
    (case xt5 => k_is)
    (case xf5 => k_is)
    (case xc5 => k_is)
    (case xo5 => k_is)
    (case xv5 => rfl)
    (case xe5 => k_is)
    (case xa5 => first | ks_is | k_is)
    (case xs5 => k_is)
    (case xn5 => k_is)
    (case xl6 => k_is)
    (case xi6 => k_is)
    (case xt6 => k_is)
    (case xf6 => k_is)
    (case xc6 => k_is)
    (case xo6 => k_is)
    (case xv6 => rfl)
    (case xe6 => k_is)
    (case xa6 => first | ks_is | k_is)
    (case xl7 => k_is)
    (case xi7 => k_is)
    (case xt7 => k_is)
    (case xf7 => k_is)
    (case xc7 => k_is)
    (case xo7 => k_is)
    (case xv7 => rfl)
    (case xe7 => k_is)
    (case xa7 => first | ks_is | k_is)
    (case xl8 => k_is)
    (case xi8 => k_is)
    (case xt8 => k_is)
    (case xf8 => k_is)
    (case xc8 => k_is)
    (case xo8 => k_is)
    (case xv8 => rfl)
    (case xe8 => k_is)
    (case xa8 => first | ks_is | k_is)
    (case kt0_0 => first | kit_is | k_is)
    (case kt0_1 => first | kit_is | k_is)
    (case kt0_2 => first | kit_is | k_is)
    (case kt0_3 => first | kit_is | k_is)
    (case kt0_4 => first | kit_is | k_is)
    (case kt0_5 => first | kit_is | k_is)
    (case kt0_6 => first | kit_is | k_is)
    (case kt0_7 => first | kit_is | k_is)
    (case kt0_8 => first | kit_is | k_is)
    (case kt0_9 => first | kit_is | k_is)
    (case ke0 => first | kit_is | k_is)
    (case kt1_0 => first | kit_is | k_is)
    (case kt1_1 => first | kit_is | k_is)
    (case kt1_2 => first | kit_is | k_is)
    (case kt1_3 => first | kit_is | k_is)
    (case kt1_4 => first | kit_is | k_is)
    (case kt1_5 => first | kit_is | k_is)
    (case kt1_6 => first | kit_is | k_is)
    (case kt1_7 => first | kit_is | k_is)
    (case kt1_8 => first | kit_is | k_is)
    (case kt1_9 => first | kit_is | k_is)
    (case ke1 => first | kit_is | k_is)
    (case kt2_0 => first | kit_is | k_is)
    (case kt2_1 => first | kit_is | k_is)
    (case kt2_2 => first | kit_is | k_is)
    (case kt2_3 => first | kit_is | k_is)
    (case kt2_4 => first | kit_is | k_is)
    (case kt2_5 => first | kit_is | k_is)
    (case kt2_6 => first | kit_is | k_is)
    (case kt2_7 => first | kit_is | k_is)
    (case kt2_8 => first | kit_is | k_is)
    (case kt2_9 => first | kit_is | k_is)
    (case ke2 => first | kit_is | k_is)
    (case kt3_0 => first | kit_is | k_is)
    (case kt3_1 => first | kit_is | k_is)
    (case kt3_2 => first | kit_is | k_is)
    (case kt3_3 => first | kit_is | k_is)
    (case kt3_4 => first | kit_is | k_is)
    (case kt3_5 => first | kit_is | k_is)
    (case kt3_6 => first | kit_is | k_is)
    (case kt3_7 => first | kit_is | k_is)
    (case kt3_8 => first | kit_is | k_is)
    (case kt3_9 => first | kit_is | k_is)
    (case ke3 => first | kit_is | k_is)
    (case kt4_0 => first | kit_is | k_is)
    (case kt4_1 => first | kit_is | k_is)
    (case kt4_2 => first | kit_is | k_is)
    (case kt4_3 => first | kit_is | k_is)
    (case kt4_4 => first | kit_is | k_is)
    (case kt4_5 => first | kit_is | k_is)
    (case kt4_6 => first | kit_is | k_is)
    (case kt4_7 => first | kit_is | k_is)
    (case kt4_8 => first | kit_is | k_is)
    (case kt4_9 => first | kit_is | k_is)
    (case ke4 => first | kit_is | k_is)
    (case kt5_0 => first | kit_is | k_is)
    (case kt5_1 => first | kit_is | k_is)
    (case kt5_2 => first | kit_is | k_is)
    (case kt5_3 => first | kit_is | k_is)
    (case kt5_4 => first | kit_is | k_is)
    (case kt5_5 => first | kit_is | k_is)
    (case kt5_6 => first | kit_is | k_is)
    (case kt5_7 => first | kit_is | k_is)
    (case kt5_8 => first | kit_is | k_is)
    (case kt5_9 => first | kit_is | k_is)
    (case ke5 => first | kit_is | k_is)
    (case kt6_0 => first | kit_is | k_is)
    (case kt6_1 => first | kit_is | k_is)
    (case kt6_2 => first | kit_is | k_is)
    (case kt6_3 => first | kit_is | k_is)
    (case kt6_4 => first | kit_is | k_is)
    (case kt6_5 => first | kit_is | k_is)
    (case kt6_6 => first | kit_is | k_is)
    (case kt6_7 => first | kit_is | k_is)
    (case kt6_8 => first | kit_is | k_is)
    (case kt6_9 => first | kit_is | k_is)
    (case ke6 => first | kit_is | k_is)
    (case kt7_0 => first | kit_is | k_is)
    (case kt7_1 => first | kit_is | k_is)
    (case kt7_2 => first | kit_is | k_is)
    (case kt7_3 => first | kit_is | k_is)
    (case kt7_4 => first | kit_is | k_is)
    (case kt7_5 => first | kit_is | k_is)
    (case kt7_6 => first | kit_is | k_is)
    (case kt7_7 => first | kit_is | k_is)
    (case kt7_8 => first | kit_is | k_is)
    (case kt7_9 => first | kit_is | k_is)
    (case ke7 => first | kit_is | k_is)
    (case kt8_0 => first | kit_is | k_is)
    (case kt8_1 => first | kit_is | k_is)
    (case kt8_2 => first | kit_is | k_is)
    (case kt8_3 => first | kit_is | k_is)
    (case kt8_4 => first | kit_is | k_is)
    (case kt8_5 => first | kit_is | k_is)
    (case kt8_6 => first | kit_is | k_is)
    (case kt8_7 => first | kit_is | k_is)
    (case kt8_8 => first | kit_is | k_is)
    (case kt8_9 => first | kit_is | k_is)
    (case ke8 => first | kit_is | k_is)
    (case kt9_0 => first | kit_is | k_is)
    (case kt9_1 => first | kit_is | k_is)
    (case kt9_2 => first | kit_is | k_is)
    (case kt9_3 => first | kit_is | k_is)
    (case kt9_4 => first | kit_is | k_is)
    (case kt9_5 => first | kit_is | k_is)
    (case kt9_6 => first | kit_is | k_is)
    (case kt9_7 => first | kit_is | k_is)
    (case kt9_8 => first | kit_is | k_is)
    (case kt9_9 => first | kit_is | k_is)
    (case ke9 => first | kit_is | k_is)
    (case xm0 => first | kts_exm | k_is)
    (case xm1 => first | kts_exm | k_is)
    (case xm2 => first | kts_exm | k_is)
    (case xm3 => first | kts_exm | k_is)
    (case xm4 => first | kts_exm | k_is)
    (case xm5 => first | kts_exm | k_is)
    (case xm6 => first | kts_exm | k_is)
    (case xm7 => first | kts_exm | k_is)
    (case xm8 => first | kts_exm | k_is)

