import PyProof.Rows.All
import Wide.All
import OpenK.AllK
import Wide.FinOn
import HandS.ForMost
import HandS.ForExc
import HandS.Wide
import HandS.TupAny
import HandS.Style
import HandS.IsInst
import HandS.Deep
import HandS.Conv
import KE.GoesMore
import KE.GoesEnum
import HandS.Zip
import HandS.Iter
import HandS.Comp
import HandS.WordsExc
import HandS.Property
import HandS.Defaults
import HandS.Exc
import HandS.Star
import HandS.OwnEq
import HandS.More
import KE.KDictZip
import KE.KItemsList
import HandS.ListItems
import PyProof.CollectWalk
import PyProof.ListRange
import HandS.HeadHook1
import HandS.HeadHook2
import HandS.Lambda
import HandS.Codes
import HandS.Words
import PyProof.ReprRoads
import HandS.HeadEnd
import HandS.Ends
import KE.KStateDown
import HandS.Head0
import HandS.Head1
import HandS.Head2
import PySem.Challenge.RW_roundrates_k68_whole_links_between
set_option Elab.async false
set_option linter.all false
set_option maxRecDepth 100000
set_option maxHeartbeats 2000000
set_option maxHeartbeats 4000000
set_option maxHeartbeats 0
/-! Dv0: data D, how it stands in the heap (Rep), the monad of draws, what a step keeps (Go), frames by slots (Fit). -/
namespace Dv
open PySem PySem.Spec L2

inductive D where
  | non | bl (b : Bool) | int (i : Int) | str (x : Str)
  | lst (xs : List D) | tup (xs : List D)
  | dic (ks : List Key) (vs : List D)
  | dit (ks : List (List Key)) (vs : List D)
  | obj (c : Nat) (fs : List D)
  | ex (c : Nat) (fs : List D)
  | scr (ns : List Int)
  | stt

/-- the ghosts: the written part, classes and their fields by number, the draws' state (dict, list of great cells, list of cells) -/
structure Gh where
  K : PySem.W.Frag
  nc : Nat
  cls : Nat → Addr
  fld : Nat → List Str
  hs : Bool
  pd : Addr
  pg : Addr
  pc : Addr

/-- an exception that was caught and is held: its class, its dict -/
def ExV (a : Addr) (cls : Value) (d : Option Addr) : HO := .ext fun h => ∃ (oe : Obj) (vs : Array Value), h.get? a = some oe ∧ Zc cls d oe ∧ oe.data = .fields vs

mutual
def Rep (G : Gh) (F : Hp) : D → V → Prop
  | .non, v => v = .non
  | .bl b, v => v = .bl b
  | .int i, v => v = .int i
  | .str x, v => v = .str x
  | .lst xs, v => ∃ a vs, v = .ref a ∧ F a = some (.lst vs) ∧ RepL G F xs vs
  | .tup xs, v => ∃ a vs, v = .ref a ∧ SqT G.K F a vs ∧ RepL G F xs vs
  | .dic ks xs, v => ∃ a vs, v = .ref a ∧ F a = some (.dK (ks.zip vs)) ∧ ks.length = xs.length ∧ RepL G F xs vs
  | .dit ks xs, v => ∃ a vs, v = .ref a ∧ F a = some (.dT (ks.zip vs)) ∧ ks.length = xs.length ∧ RepL G F xs vs
  | .obj c fs, v => ∃ a dx vs, v = .ref a ∧ F a = some (.ins (G.cls c) dx ((G.fld c).zip vs)) ∧ (G.fld c).length = fs.length ∧ RepL G F fs vs
  | .ex c fs, v => ∃ a, v = .ref a ∧ ((fs = [] ∧ F a = some (ExV a (.ref (G.cls c)) none)) ∨
      ∃ d vs, F a = some (ExV a (.ref (G.cls c)) (some d)) ∧ F d = some (.xd ((G.fld c).zip vs)) ∧ (G.fld c).length = fs.length ∧ RepL G F fs vs)
  | .scr ns, v => ∃ a, v = .ref a ∧ SqL G.K F a (ns.map V.int)
  | .stt, v => G.hs = true ∧ v = .ref G.pd
def RepL (G : Gh) (F : Hp) : List D → List V → Prop
  | [], vs => vs = []
  | x :: xs, vs => ∃ v ws, vs = v :: ws ∧ Rep G F x v ∧ RepL G F xs ws
end

theorem same_sqT {K : PySem.W.Frag} {F F' : Hp} {a : Addr} {xs : List V} (e : Same F F') (h : SqT K F a xs) : SqT K F' a xs := by
  rcases h with (h | ⟨o, h⟩) | h
  · exact .inl (.inl (e _ _ h))
  · exact .inl (.inr ⟨o, e _ _ h⟩)
  · exact .inr h
mutual
theorem Rep.mono {G : Gh} {F F' : Hp} (e : Same F F') : ∀ {d : D} {v : V}, Rep G F d v → Rep G F' d v
  | .non, _, h => h
  | .bl _, _, h => h
  | .int _, _, h => h
  | .str _, _, h => h
  | .lst _, _, ⟨a, vs, h1, h2, h3⟩ => ⟨a, vs, h1, e _ _ h2, RepL.mono e h3⟩
  | .tup _, _, ⟨a, vs, h1, h2, h3⟩ => ⟨a, vs, h1, same_sqT e h2, RepL.mono e h3⟩
  | .dic _ _, _, ⟨a, vs, h1, h2, h4, h3⟩ => ⟨a, vs, h1, e _ _ h2, h4, RepL.mono e h3⟩
  | .dit _ _, _, ⟨a, vs, h1, h2, h4, h3⟩ => ⟨a, vs, h1, e _ _ h2, h4, RepL.mono e h3⟩
  | .obj _ _, _, ⟨a, dx, vs, h1, h2, h4, h3⟩ => ⟨a, dx, vs, h1, e _ _ h2, h4, RepL.mono e h3⟩
  | .ex _ fs, _, ⟨a, h1, h⟩ => ⟨a, h1, h.elim (fun h => .inl ⟨h.1, e _ _ h.2⟩) fun ⟨d, vs, h2, h3, h4, h5⟩ => .inr ⟨d, vs, e _ _ h2, e _ _ h3, h4, RepL.mono e h5⟩⟩
  | .scr _, _, ⟨a, h1, h2⟩ => ⟨a, h1, Same.seq e h2⟩
  | .stt, _, h => h
theorem RepL.mono {G : Gh} {F F' : Hp} (e : Same F F') : ∀ {ds : List D} {vs : List V}, RepL G F ds vs → RepL G F' ds vs
  | [], _, h => h
  | _ :: _, _, ⟨v, ws, h1, h2, h3⟩ => ⟨v, ws, h1, Rep.mono e h2, RepL.mono e h3⟩
end
theorem RepL.nil {G : Gh} {F : Hp} : RepL G F [] [] := rfl
theorem RepL.cons {G : Gh} {F : Hp} {d v ds vs} (h : Rep G F d v) (t : RepL G F ds vs) : RepL G F (d :: ds) (v :: vs) := ⟨v, vs, rfl, h, t⟩
theorem RepL.length {G : Gh} {F : Hp} : ∀ {ds : List D} {vs : List V}, RepL G F ds vs → ds.length = vs.length
  | [], _, h => by cases (show _ = [] from h); rfl
  | _ :: _, _, ⟨v, ws, h1, h2, h3⟩ => by subst h1; simp [RepL.length h3]
theorem RepL.get {G : Gh} {F : Hp} : ∀ {ds : List D} {vs : List V} {i : Nat} {d : D}, RepL G F ds vs → ds[i]? = some d → ∃ v, vs[i]? = some v ∧ Rep G F d v
  | [], _, _, _, h, e => by simp at e
  | _ :: _, _, 0, d, ⟨v, ws, h1, h2, h3⟩, e => by subst h1; simp at e; subst e; exact ⟨v, rfl, h2⟩
  | _ :: _, _, i + 1, d, ⟨v, ws, h1, h2, h3⟩, e => by
    subst h1
    obtain ⟨u, e1, e2⟩ := RepL.get (i := i) (d := d) h3 (by simpa using e)
    exact ⟨u, by simpa using e1, e2⟩
theorem RepL.getV {G : Gh} {F : Hp} : ∀ {ds : List D} {vs : List V} {i : Nat} {v : V}, RepL G F ds vs → vs[i]? = some v → ∃ d, ds[i]? = some d ∧ Rep G F d v
  | [], _, _, _, h, e => by cases (show _ = [] from h); simp at e
  | d :: _, _, 0, v, ⟨w, ws, h1, h2, h3⟩, e => by subst h1; simp at e; subst e; exact ⟨d, rfl, h2⟩
  | _ :: _, _, i + 1, v, ⟨w, ws, h1, h2, h3⟩, e => by
    subst h1
    obtain ⟨u, e1, e2⟩ := RepL.getV (i := i) (v := v) h3 (by simpa using e)
    exact ⟨u, by simpa using e1, e2⟩
theorem RepL.append {G : Gh} {F : Hp} : ∀ {ds es : List D} {vs ws : List V}, RepL G F ds vs → RepL G F es ws → RepL G F (ds ++ es) (vs ++ ws)
  | [], _, _, _, h, k => by cases (show _ = [] from h); exact k
  | _ :: _, _, _, _, ⟨v, us, h1, h2, h3⟩, k => by subst h1; exact .cons h2 (RepL.append h3 k)
theorem RepL.take {G : Gh} {F : Hp} : ∀ {ds : List D} {vs : List V} (n : Nat), RepL G F ds vs → RepL G F (ds.take n) (vs.take n)
  | _, _, 0, _ => by simp [RepL]
  | [], _, _ + 1, h => by cases (show _ = [] from h); exact .nil
  | _ :: _, _, n + 1, ⟨v, us, h1, h2, h3⟩ => by subst h1; exact .cons h2 (RepL.take n h3)
theorem RepL.drop {G : Gh} {F : Hp} : ∀ {ds : List D} {vs : List V} (n : Nat), RepL G F ds vs → RepL G F (ds.drop n) (vs.drop n)
  | _, _, 0, h => h
  | [], _, _ + 1, h => by cases (show _ = [] from h); exact .nil
  | _ :: _, _, n + 1, ⟨v, us, h1, h2, h3⟩ => by subst h1; exact RepL.drop n h3
theorem RepL.set {G : Gh} {F : Hp} {d v} (r : Rep G F d v) : ∀ {ds : List D} {vs : List V} (n : Nat), RepL G F ds vs → RepL G F (ds.set n d) (vs.set n v)
  | [], _, _, h => by cases (show _ = [] from h); exact .nil
  | _ :: _, _, 0, ⟨w, us, h1, h2, h3⟩ => by subst h1; exact .cons r h3
  | _ :: _, _, n + 1, ⟨w, us, h1, h2, h3⟩ => by subst h1; exact .cons h2 (RepL.set r n h3)
theorem RepL.replicate {G : Gh} {F : Hp} {d v} (r : Rep G F d v) : ∀ n, RepL G F (List.replicate n d) (List.replicate n v)
  | 0 => .nil
  | n + 1 => .cons r (RepL.replicate r n)
theorem RepL.reverse {G : Gh} {F : Hp} : ∀ {ds : List D} {vs : List V}, RepL G F ds vs → RepL G F ds.reverse vs.reverse
  | [], _, h => by cases (show _ = [] from h); exact .nil
  | _ :: _, _, ⟨v, us, h1, h2, h3⟩ => by subst h1; rw [List.reverse_cons, List.reverse_cons]; exact .append (RepL.reverse h3) (.cons h2 .nil)

/-! ### the monad -/
structure DS where
  great : List Int
  cells : List Int
  rest : Int
  turn : Int
inductive Rs (α : Type) where
  | ok (a : α) | exc (x : D) | bad
abbrev M (α : Type) := DS → Rs α × DS
def ret {α : Type} (a : α) : M α := fun S => (.ok a, S)
def bad {α : Type} : M α := fun S => (.bad, S)
def bnd {α β : Type} (m : M α) (f : α → M β) : M β := fun S => match m S with
  | (.ok a, S') => f a S'
  | (.exc x, S') => (.exc x, S')
  | (.bad, S') => (.bad, S')
def ofO {α : Type} : Option α → M α
  | some a => ret a
  | none => bad
theorem bnd_ret {α β : Type} {a : α} {f : α → M β} : bnd (ret a) f = f a := rfl
theorem bnd_bad {α β : Type} {f : α → M β} : bnd bad f = bad := rfl

/-! ### what a step keeps -/
def stK (G : Gh) (S : DS) : List (Key × V) := [(.inr "great", .ref G.pg), (.inr "cells", .ref G.pc), (.inr "rest", .int S.rest), (.inr "turn", .int S.turn)]
structure StOK (G : Gh) (F H : Hp) (S : DS) : Prop where
  hd : H G.pd = some (.dK (stK G S))
  hg : H G.pg = some (.lst (S.great.map V.int))
  hc : H G.pc = some (.lst (S.cells.map V.int))
  fd : F G.pd = none
  fg : F G.pg = none
  fc : F G.pc = some (.lst (S.cells.map V.int))
  ne : G.pg ≠ G.pc
structure Go (G : Gh) (F H : Hp) (S : DS) (F' H' : Hp) : Prop where
  le : Same F' H'
  st : G.hs = true → StOK G F' H' S
  ext : Same F F'
  keep : ∀ a o, H a = some o → (G.hs = true → a ≠ G.pd ∧ a ≠ G.pg) → H' a = some o
  new : ∀ a o, F' a = some o → F a = some o ∨ H a = none
  grow : ∀ a, H' a = none → H a = none
theorem Go.refl {G : Gh} {F H : Hp} {S : DS} (le : Same F H) (st : G.hs = true → StOK G F H S) : Go G F H S F H :=
  ⟨le, st, Same.refl F, fun _ _ h _ => h, fun _ _ h => .inl h, fun _ h => h⟩
theorem Go.trans {G : Gh} {F H F1 H1 F2 H2 : Hp} {S1 S2 : DS} (a : Go G F H S1 F1 H1) (b : Go G F1 H1 S2 F2 H2) : Go G F H S2 F2 H2 :=
  ⟨b.le, b.st, a.ext.trans b.ext, fun x o h n => b.keep x o (a.keep x o h n) n, fun x o h => (b.new x o h).elim (fun h => a.new x o h) fun h => .inr (a.grow x h), fun x h => a.grow x (b.grow x h)⟩
/-- a new object of ours -/
theorem Go.alloc {G : Gh} {F H : Hp} {S : DS} {p : Addr} {o : HO} (le : Same F H) (st : G.hs = true → StOK G F H S) (np : H p = none) : Go G F H S (upd F p o) (upd H p o) := by
  have nf : F p = none := by
    cases e : F p with
    | none => rfl
    | some u => rw [le p u e] at np; cases np
  have ne : ∀ {a : Addr} {u : HO}, H a = some u → a ≠ p := fun h z => by rw [z, np] at h; cases h
  refine ⟨fun a u e => ?_, fun hs => ?_, fun a u e => ?_, fun a u e _ => ?_, fun a u e => ?_, fun a e => ?_⟩
  · by_cases h : a = p
    · subst h; rw [upd_same] at e ⊢; exact e
    · rw [upd_ne h] at e ⊢; exact le a u e
  · obtain ⟨h1, h2, h3, h4, h5, h6, h7⟩ := st hs
    exact ⟨by rw [upd_ne (ne h1)]; exact h1, by rw [upd_ne (ne h2)]; exact h2, by rw [upd_ne (ne h3)]; exact h3, by rw [upd_ne (ne h1)]; exact h4, by rw [upd_ne (ne h2)]; exact h5, by rw [upd_ne (ne h3)]; exact h6, h7⟩
  · rw [upd_ne (ne_of_none e nf)]; exact e
  · rw [upd_ne (ne e)]; exact e
  · by_cases h : a = p
    · subst h; exact .inr np
    · rw [upd_ne h] at e; exact .inl e
  · by_cases h : a = p
    · rw [h]; exact np
    · rw [upd_ne h] at e; exact e
/-- a new object that is not frozen -/
theorem Go.allocH {G : Gh} {F H : Hp} {S : DS} {p : Addr} {o : HO} (le : Same F H) (st : G.hs = true → StOK G F H S) (np : H p = none) : Go G F H S F (upd H p o) := by
  have ne : ∀ {a : Addr} {u : HO}, H a = some u → a ≠ p := fun h z => by rw [z, np] at h; cases h
  refine ⟨fun a u e => ?_, fun hs => ?_, Same.refl F, fun a u e _ => ?_, fun a u e => .inl e, fun a e => ?_⟩
  · rw [upd_ne (ne (le a u e))]; exact le a u e
  · obtain ⟨h1, h2, h3, h4, h5, h6, h7⟩ := st hs
    exact ⟨by rw [upd_ne (ne h1)]; exact h1, by rw [upd_ne (ne h2)]; exact h2, by rw [upd_ne (ne h3)]; exact h3, h4, h5, h6, h7⟩
  · rw [upd_ne (ne e)]; exact e
  · by_cases h : a = p
    · rw [h]; exact np
    · rw [upd_ne h] at e; exact e

/-! ### what a result asks -/
/-- an exception as it flies: its class, its dict -/
def ExR (G : Gh) (F H : Hp) (x : D) (cls : Value) (dd : Option Addr) : Prop := match x with
  | .ex c fs => cls = .ref (G.cls c) ∧ ((fs = [] ∧ dd = none) ∨ ∃ d vs, dd = some d ∧ H d = some (.xd ((G.fld c).zip vs)) ∧ F d = none ∧ (G.fld c).length = fs.length ∧ RepL G F fs vs)
  | _ => False
/-- K: what is wanted of data, state, value, heaps behind it -/
def PostK {α : Type} (G : Gh) (E : XK) (F H : Hp) (r : Rs α × DS) (K : α → DS → Hp → Hp → Prop) : Prop := match r with
  | (.ok a, S) => ∀ F' H', Go G F H S F' H' → K a S F' H'
  | (.exc x, S) => ∀ cls dd F' H', Go G F H S F' H' → ExR G F' H' x cls dd → E cls dd H'
  | (.bad, _) => False
/-- a value that stands for data -/
def Post (G : Gh) (E : XK) (F H : Hp) (r : Rs D × DS) (Q : VK) : Prop := PostK G E F H r fun d _ F' H' => ∀ v, Rep G F' d v → Q v H'
theorem PostK.go {α : Type} {G : Gh} {E : XK} {F H F1 H1 : Hp} {S1 : DS} {r : Rs α × DS} {K : α → DS → Hp → Hp → Prop} (g : Go G F H S1 F1 H1) (h : PostK G E F H r K) : PostK G E F1 H1 r K := by
  obtain ⟨r, S⟩ := r
  cases r with
  | ok a => exact fun F' H' g' => h F' H' (g.trans g')
  | exc x => exact fun cls dd F' H' g' => h cls dd F' H' (g.trans g')
  | bad => exact h
theorem PostK.imp {α : Type} {G : Gh} {E : XK} {F H : Hp} {r : Rs α × DS} {K K' : α → DS → Hp → Hp → Prop} (h : PostK G E F H r K) (k : ∀ a S F' H', Go G F H S F' H' → K a S F' H' → K' a S F' H') : PostK G E F H r K' := by
  obtain ⟨r, S⟩ := r
  cases r with
  | ok a => exact fun F' H' g' => k a S F' H' g' (h F' H' g')
  | exc x => exact h
  | bad => exact h
/-- the first part of a bind -/
theorem PostK.bind {α β : Type} {G : Gh} {E : XK} {F H : Hp} {S : DS} {m : M α} {f : α → M β} {K : β → DS → Hp → Hp → Prop} (h : PostK G E F H (bnd m f S) K) :
    PostK G E F H (m S) fun a S1 F1 H1 => PostK G E F1 H1 (f a S1) K := by
  unfold bnd at h
  generalize m S = r at h ⊢
  obtain ⟨r, S1⟩ := r
  cases r with
  | ok a => exact fun F1 H1 g => PostK.go g h
  | exc x => exact h
  | bad => exact h
theorem PostK.ofO {α β : Type} {G : Gh} {E : XK} {F H : Hp} {S : DS} {o : Option α} {f : α → M β} {K : β → DS → Hp → Hp → Prop} (h : PostK G E F H (bnd (Dv.ofO o) f S) K) : ∃ a, o = some a ∧ PostK G E F H (f a S) K := by
  cases o with
  | none => exact h.elim
  | some a => exact ⟨a, rfl, h⟩

/-! ### frames -/
inductive Sl where
  | un | dat (d : D) | own (xs : List D) | owd (ks : List Key) (xs : List D) | owt (ks : List (List Key)) (xs : List D) | ini (c : Nat) (fs : List D)
def Sl.mine : Sl → Bool
  | .un => false
  | .dat _ => false
  | _ => true
structure Gam where
  G : Gh
  F0 : Hp
  H0 : Hp
  E : XK
  slf : Addr := 0
structure Mine (Γ : Gam) (F : Hp) (p : Addr) : Prop where
  f : F p = none
  h0 : Γ.H0 p = none
  st : Γ.G.hs = true → p ≠ Γ.G.pd ∧ p ≠ Γ.G.pg ∧ p ≠ Γ.G.pc
def SlR (Γ : Gam) (F H : Hp) (p : Addr) : Sl → Option V → Prop
  | .un, _ => True
  | .dat d, o => ∃ v, o = some v ∧ Rep Γ.G F d v
  | .own xs, o => o = some (.ref p) ∧ Mine Γ F p ∧ ∃ vs, H p = some (.lst vs) ∧ RepL Γ.G F xs vs
  | .owd ks xs, o => o = some (.ref p) ∧ Mine Γ F p ∧ ∃ vs, H p = some (.dK (ks.zip vs)) ∧ ks.length = xs.length ∧ RepL Γ.G F xs vs
  | .owt ks xs, o => o = some (.ref p) ∧ Mine Γ F p ∧ ∃ vs, H p = some (.dT (ks.zip vs)) ∧ ks.length = xs.length ∧ RepL Γ.G F xs vs
  | .ini c fs, o => o = some (.ref p) ∧ Mine Γ F p ∧ ∃ vs, (∃ dx, H p = some (.ins (Γ.G.cls c) dx (((Γ.G.fld c).take fs.length).zip vs))) ∧ (p = Γ.slf ∧ fs.length ≤ (Γ.G.fld c).length) ∧ RepL Γ.G F fs vs
abbrev Rho := List Sl
structure Sls (Γ : Gam) (F H : Hp) (ow : Nat → Addr) (ρ : Rho) (σ : St) : Prop where
  at_ : ∀ i s, ρ[i]? = some s → ∃ o, σ[i]? = some o ∧ SlR Γ F H (ow i) s o
  inj : ∀ i j s t, ρ[i]? = some s → ρ[j]? = some t → s.mine = true → t.mine = true → ow i = ow j → i = j
structure Fit (Γ : Gam) (ρ : Rho) (S : DS) (F : Hp) (σ : St) (H : Hp) : Prop where
  go : Go Γ.G Γ.F0 Γ.H0 S F H
  len : ρ.length = σ.length
  sl : ∃ ow, Sls Γ F H ow ρ σ

theorem Go.nof {G : Gh} {F H F' H' : Hp} {S : DS} (g : Go G F H S F' H') {p : Addr} {o : HO} (hf : F p = none) (hh : H p = some o) : F' p = none := by
  cases e : F' p with
  | none => rfl
  | some u =>
    rcases g.new p u e with z | z
    · rw [hf] at z; cases z
    · rw [hh] at z; cases z
theorem SlR.go {Γ : Gam} {F H F' H' : Hp} {S : DS} {p : Addr} {s : Sl} {o : Option V} (g : Go Γ.G F H S F' H') (h : SlR Γ F H p s o) : SlR Γ F' H' p s o := by
  have mv : ∀ {u : HO}, Mine Γ F p → H p = some u → Mine Γ F' p ∧ H' p = some u := fun {u} m e =>
    ⟨⟨g.nof m.f e, m.h0, m.st⟩, g.keep p u e fun hs => ⟨(m.st hs).1, (m.st hs).2.1⟩⟩
  cases s with
  | un => trivial
  | dat d => obtain ⟨v, e, r⟩ := h; exact ⟨v, e, r.mono g.ext⟩
  | own xs => obtain ⟨e, m, vs, hp, r⟩ := h; exact ⟨e, (mv m hp).1, vs, (mv m hp).2, r.mono g.ext⟩
  | owd ks xs => obtain ⟨e, m, vs, hp, l, r⟩ := h; exact ⟨e, (mv m hp).1, vs, (mv m hp).2, l, r.mono g.ext⟩
  | owt ks xs => obtain ⟨e, m, vs, hp, l, r⟩ := h; exact ⟨e, (mv m hp).1, vs, (mv m hp).2, l, r.mono g.ext⟩
  | ini c fs => obtain ⟨e, m, vs, ⟨dx, hp⟩, l, r⟩ := h; exact ⟨e, (mv m hp).1, vs, ⟨dx, (mv m hp).2⟩, l, r.mono g.ext⟩
theorem Fit.step {Γ : Gam} {ρ : Rho} {S S' : DS} {F H F' H' : Hp} {σ : St} (f : Fit Γ ρ S F σ H) (g : Go Γ.G F H S' F' H') : Fit Γ ρ S' F' σ H' :=
  ⟨f.go.trans g, f.len, let ⟨ow, s⟩ := f.sl; ⟨ow, fun i s' e => let ⟨o, e1, r⟩ := s.at_ i s' e; ⟨o, e1, r.go g⟩, s.inj⟩⟩
theorem Fit.le {Γ : Gam} {ρ : Rho} {S : DS} {F H : Hp} {σ : St} (f : Fit Γ ρ S F σ H) : Same F H := f.go.le
theorem Fit.st {Γ : Gam} {ρ : Rho} {S : DS} {F H : Hp} {σ : St} (f : Fit Γ ρ S F σ H) : Γ.G.hs = true → StOK Γ.G F H S := f.go.st
theorem Fit.refl {Γ : Gam} {ρ : Rho} {S : DS} {F H : Hp} {σ : St} (f : Fit Γ ρ S F σ H) : Go Γ.G F H S F H := Go.refl f.le f.st
theorem Fit.dat {Γ : Gam} {ρ : Rho} {S : DS} {F H : Hp} {σ : St} (f : Fit Γ ρ S F σ H) {i : Nat} {d : D} (e : ρ[i]? = some (.dat d)) : ∃ v, σ[i]? = some (some v) ∧ Rep Γ.G F d v := by
  obtain ⟨ow, s⟩ := f.sl
  obtain ⟨o, e1, v, e2, r⟩ := s.at_ i _ e
  subst e2
  exact ⟨v, e1, r⟩
/-- an address that is new is nobody's -/
theorem Fit.fresh {Γ : Gam} {ρ : Rho} {S : DS} {F H : Hp} {σ : St} (f : Fit Γ ρ S F σ H) {p : Addr} (np : H p = none) : Mine Γ F p := by
  refine ⟨?_, f.go.grow p np, fun hs => ?_⟩
  · cases e : F p with
    | none => rfl
    | some u => rw [f.le p u e] at np; cases np
  · have st := f.st hs
    refine ⟨fun e => ?_, fun e => ?_, fun e => ?_⟩
    · have z := st.hd; rw [← e, np] at z; cases z
    · have z := st.hg; rw [← e, np] at z; cases z
    · have z := st.hc; rw [← e, np] at z; cases z
/-- data stored in a slot -/
theorem Fit.put {Γ : Gam} {ρ : Rho} {S : DS} {F H : Hp} {σ : St} {i : Nat} {d : D} {v : V} (f : Fit Γ ρ S F σ H) (r : Rep Γ.G F d v) : Fit Γ (ρ.set i (.dat d)) S F (σ.set i (some v)) H := by
  refine ⟨f.go, by simp [f.len], ?_⟩
  obtain ⟨ow, s⟩ := f.sl
  refine ⟨ow, fun j t e => ?_, fun j l t u e1 e2 m1 m2 => ?_⟩
  · by_cases h : i = j
    · subst h
      have hl : i < ρ.length := by
        have := (List.getElem?_eq_some_iff.mp e).1
        simpa using this
      rw [List.getElem?_set_self hl] at e
      cases e
      exact ⟨some v, List.getElem?_set_self (by rw [← f.len]; exact hl), v, rfl, r⟩
    · rw [List.getElem?_set_ne h] at e
      rw [List.getElem?_set_ne h]
      exact s.at_ j t e
  · have un : ∀ {j : Nat} {t : Sl}, (ρ.set i (.dat d))[j]? = some t → t.mine = true → ρ[j]? = some t := fun {j t} e m => by
      by_cases h : i = j
      · subst h
        have hl : i < ρ.length := by
          have := (List.getElem?_eq_some_iff.mp e).1
          simpa using this
        rw [List.getElem?_set_self hl] at e
        cases e
        cases m
      · rw [List.getElem?_set_ne h] at e; exact e
    exact s.inj j l t u (un e1 m1) (un e2 m2) m1 m2
/-- a slot forgotten -/
theorem Fit.unset {Γ : Gam} {ρ : Rho} {S : DS} {F H : Hp} {σ : St} {i : Nat} {o : Option V} (f : Fit Γ ρ S F σ H) : Fit Γ (ρ.set i .un) S F (σ.set i o) H := by
  refine ⟨f.go, by simp [f.len], ?_⟩
  obtain ⟨ow, s⟩ := f.sl
  refine ⟨ow, fun j t e => ?_, fun j l t u e1 e2 m1 m2 => ?_⟩
  · by_cases h : i = j
    · subst h
      have hl : i < ρ.length := by
        have := (List.getElem?_eq_some_iff.mp e).1
        simpa using this
      rw [List.getElem?_set_self hl] at e
      cases e
      exact ⟨o, List.getElem?_set_self (by rw [← f.len]; exact hl), trivial⟩
    · rw [List.getElem?_set_ne h] at e
      rw [List.getElem?_set_ne h]
      exact s.at_ j t e
  · have un : ∀ {j : Nat} {t : Sl}, (ρ.set i .un)[j]? = some t → t.mine = true → ρ[j]? = some t := fun {j t} e m => by
      by_cases h : i = j
      · subst h
        have hl : i < ρ.length := by
          have := (List.getElem?_eq_some_iff.mp e).1
          simpa using this
        rw [List.getElem?_set_self hl] at e
        cases e
        cases m
      · rw [List.getElem?_set_ne h] at e; exact e
    exact s.inj j l t u (un e1 m1) (un e2 m2) m1 m2
/-- an own object stored in a slot: its address is no other slot's -/
theorem Fit.putOwn {Γ : Gam} {ρ : Rho} {S : DS} {F H : Hp} {σ : St} {i : Nat} {t : Sl} {p : Addr} (f : Fit Γ ρ S F σ H) (r : SlR Γ F H p t (some (.ref p)))
    (nw : ∀ j s, ρ[j]? = some s → s.mine = true → σ[j]? = some (some (.ref p)) → j = i) : Fit Γ (ρ.set i t) S F (σ.set i (some (.ref p))) H := by
  refine ⟨f.go, by simp [f.len], ?_⟩
  obtain ⟨ow, s⟩ := f.sl
  have own_at : ∀ {j : Nat} {t : Sl}, ρ[j]? = some t → t.mine = true → σ[j]? = some (some (.ref (ow j))) := fun {j t} e m => by
    obtain ⟨o, e1, r⟩ := s.at_ j t e
    rw [e1]
    cases t with
    | un => cases m
    | dat d => cases m
    | own xs => rw [r.1]
    | owd ks xs => rw [r.1]
    | owt ks xs => rw [r.1]
    | ini c fs => rw [r.1]
  refine ⟨fun j => if j = i then p else ow j, fun j u e => ?_, fun j l u w e1 e2 m1 m2 ee => ?_⟩
  · by_cases h : i = j
    · subst h
      have hl : i < ρ.length := by
        have := (List.getElem?_eq_some_iff.mp e).1
        simpa using this
      rw [List.getElem?_set_self hl] at e
      cases e
      refine ⟨some (.ref p), List.getElem?_set_self (by rw [← f.len]; exact hl), ?_⟩
      rw [if_pos rfl]; exact r
    · rw [List.getElem?_set_ne h] at e
      rw [List.getElem?_set_ne h]
      obtain ⟨o, e1, r⟩ := s.at_ j u e
      refine ⟨o, e1, ?_⟩
      rw [if_neg (Ne.symm h)]; exact r
  · by_cases hj : i = j
    · by_cases hl : i = l
      · rw [← hj, ← hl]
      · have el : ρ[l]? = some w := by rw [List.getElem?_set_ne hl] at e2; exact e2
        have ee' : p = ow l := by
          have z : (if j = i then p else ow j) = (if l = i then p else ow l) := ee
          rw [if_pos hj.symm, if_neg (Ne.symm hl)] at z
          exact z
        have z := own_at el m2
        rw [← ee'] at z
        exact absurd (nw l w el m2 z).symm hl
    · have ej : ρ[j]? = some u := by rw [List.getElem?_set_ne hj] at e1; exact e1
      by_cases hl : i = l
      · have ee' : ow j = p := by
          have z : (if j = i then p else ow j) = (if l = i then p else ow l) := ee
          rw [if_neg (Ne.symm hj), if_pos hl.symm] at z
          exact z
        have z := own_at ej m1
        rw [ee'] at z
        exact absurd (nw j u ej m1 z).symm hj
      · have el : ρ[l]? = some w := by rw [List.getElem?_set_ne hl] at e2; exact e2
        have ee' : ow j = ow l := by
          have z : (if j = i then p else ow j) = (if l = i then p else ow l) := ee
          rw [if_neg (Ne.symm hj), if_neg (Ne.symm hl)] at z
          exact z
        exact s.inj j l u w ej el m1 m2 ee'
end Dv

/-! Dv1: expressions, what they denote. -/
namespace Dv
open PySem PySem.Spec L2

theorem pe_imp {X : Cx} {e : Expr} {t t' : TE} (h : PE X e t) (k : ∀ σ H Q, t' σ H Q → t σ H Q) : PE X e t' := ⟨fun pins s σ H Q I hw => h.run pins s σ H Q I (k σ H Q hw)⟩
theorem pt_imp {X : Cx} {e : Expr} {t t' : TT} (h : PT X e t) (k : ∀ σ H Q, t' σ H Q → t σ H Q) : PT X e t' := ⟨fun pins s σ H Q I hw => h.run pins s σ H Q I (k σ H Q hw)⟩
theorem pw_imp {X : Cx} {e : Expr} {t t' : TT} (h : PW X e t) (k : ∀ σ H Q, t' σ H Q → t σ H Q) : PW X e t' := ⟨fun wh pins s σ H Q I hw => h.run wh pins s σ H Q I (k σ H Q hw)⟩
theorem pa_imp {X : Cx} {es : List Expr} {t t' : TA} (h : PA X es t) (k : ∀ σ H Q, t' σ H Q → t σ H Q) : PA X es t' := ⟨fun p pins s σ H Q I hw => h.run p pins s σ H Q I (k σ H Q hw)⟩

abbrev EM := Rho → M D
/-- an expression denotes m -/
def tD (Γ : Gam) (m : EM) : TE := fun σ H Q => ∃ ρ S F, Fit Γ ρ S F σ H ∧ Post Γ.G Γ.E F H (m ρ S) Q
abbrev DE (Γ : Gam) (X : Cx) (e : Expr) (m : EM) : Prop := PE X e (tD Γ m)
/-- a test: the answer is a truth -/
def asB : D → M Bool
  | .bl b => ret b
  | _ => bad
def tDT (Γ : Gam) (m : Rho → M Bool) : TT := fun σ H Q => ∃ ρ S F, Fit Γ ρ S F σ H ∧ PostK Γ.G Γ.E F H (m ρ S) fun b _ _ H' => Q b H'
abbrev DT (Γ : Gam) (X : Cx) (e : Expr) (m : Rho → M Bool) : Prop := PT X e (tDT Γ m)
abbrev DW (Γ : Gam) (X : Cx) (e : Expr) (m : Rho → M Bool) : Prop := PW X e (tDT Γ m)
/-- an argument list -/
def tDA (Γ : Gam) (m : Rho → M (List D)) : TA := fun σ H Q => ∃ ρ S F, Fit Γ ρ S F σ H ∧ PostK Γ.G Γ.E F H (m ρ S) fun ds _ F' H' => ∀ vs, RepL Γ.G F' ds vs → Q vs H'
abbrev DA (Γ : Gam) (X : Cx) (es : List Expr) (m : Rho → M (List D)) : Prop := PA X es (tDA Γ m)

/-- what a context bears throughout -/
structure Cok (Γ : Gam) (X : Cx) (k : Nat) : Prop where
  calm : X.calm = true
  nd : X.N.Nodup
  hr : Room k X.A
  pass : Passes (L2.CX X.prog X.w) X Γ.E
  hK : Γ.G.K = X.K
theorem Cok.hu {Γ : Gam} {X : Cx} {k : Nat} (c : Cok Γ X k) : X.A.units + 64 < cLine := by have := c.hr.un; omega

section
variable {Γ : Gam} {X : Cx} {k : Nat}

/-- run the first part of a bind -/
theorem td_bind {ma : EM} {f : Rho → D → M D} {σ : L2.St} {H : Hp} {Q : VK} (h : tD Γ (fun ρ => bnd (ma ρ) (f ρ)) σ H Q)
    {R : VK} (k : ∀ ρ S F v x H1, Fit Γ ρ S F σ H1 → Rep Γ.G F x v → Post Γ.G Γ.E F H1 (f ρ x S) Q → R v H1) : tD Γ ma σ H R := by
  obtain ⟨ρ, S, F, ft, p⟩ := h
  refine ⟨ρ, S, F, ft, ?_⟩
  have q := PostK.bind (f := f ρ) p
  exact q.imp fun d S1 F1 H1 g r v rv => k ρ S1 F1 v d H1 (ft.step g) rv r
/-- the same, where two heaps are spanned: the wish goes on in Fit -/
theorem td_intro {m : EM} {ρ : Rho} {S : DS} {F H : Hp} {σ : L2.St} {Q : VK} (ft : Fit Γ ρ S F σ H) (p : Post Γ.G Γ.E F H (m ρ S) Q) : tD Γ m σ H Q := ⟨ρ, S, F, ft, p⟩
theorem post_ret {G : Gh} {E : XK} {F H : Hp} {d : D} {S : DS} {Q : VK} (h : Post G E F H (ret d S) Q) (le : Same F H) (st : G.hs = true → StOK G F H S) {v : V} (r : Rep G F d v) : Q v H :=
  h F H (Go.refl le st) v r
theorem post_alloc {G : Gh} {E : XK} {F H : Hp} {d : D} {S : DS} {Q : VK} (h : Post G E F H (ret d S) Q) (le : Same F H) (st : G.hs = true → StOK G F H S) {p : Addr} {o : HO} (np : H p = none) (r : Rep G (upd F p o) d (.ref p)) : Q (.ref p) (upd H p o) :=
  h _ _ (Go.alloc le st np) _ r

/-! ### names, constants -/
def mV (i : Nat) : EM := fun ρ => match ρ[i]? with
  | some (.dat d) => ret d
  | _ => bad
theorem de_v (i : Nat) {x : Str} {pos : Pos} (hN : X.N[i]? = some x := by rfl) (hv : Vis X.env.scope x := by first | exact Or.inl rfl | exact Or.inr (Or.inl rfl) | exact Or.inr (Or.inr rfl)) (hd : (x == ("__debug__" : Str)) = false := by decide)
    (hcd : (x == ("__classdict__" : Str)) = false := by decide) : DE Γ X (.Name x pos) (mV i) := by
  refine pe_imp (pe_var hN hv hd hcd) fun σ H Q h => ?_
  obtain ⟨ρ, S, F, ft, p⟩ := h
  unfold mV at p
  cases e : ρ[i]? with
  | none => rw [e] at p; exact p.elim
  | some s =>
    rw [e] at p
    cases s with
    | dat d =>
      obtain ⟨v, e1, r⟩ := ft.dat e
      exact ⟨v, e1, post_ret p ft.le ft.st r⟩
    | _ => exact p.elim
def mC (d : D) : EM := fun _ => ret d
theorem de_c {e : Expr} {d : D} {v : V} (h : PE X e (tC v)) (r : ∀ F, Rep Γ.G F d v) : DE Γ X e (mC d) := pe_imp h fun σ H Q ⟨ρ, S, F, ft, p⟩ => post_ret p ft.le ft.st (r F)
theorem de_int {i j pos} : DE Γ X (.Constant (.int i) j pos) (mC (.int i)) := de_c pe_int fun _ => rfl
theorem de_bl {b j pos} : DE Γ X (.Constant (.bool b) j pos) (mC (.bl b)) := de_c pe_bl fun _ => rfl
theorem de_non {j pos} : DE Γ X (.Constant .none j pos) (mC .non) := de_c pe_non fun _ => rfl
theorem de_str {x j pos} : DE Γ X (.Constant (.str x) j pos) (mC (.str x)) := de_c pe_str fun _ => rfl
theorem de_gi {x : Str} {i : Int} {pos : Pos} (hg : Gl X x) (hm : ∃ t, X.mg x = some (.int i t)) (hd : (x == ("__debug__" : Str)) = false := by decide) : DE Γ X (.Name x pos) (mC (.int i)) := by
  obtain ⟨t, hm⟩ := hm
  exact de_c (pe_glob (v := .int i) hg hm ⟨t, rfl⟩ hd) fun _ => rfl
theorem de_gs {x : Str} {z : Str} {pos : Pos} (hg : Gl X x) (hm : ∃ t, X.mg x = some (.str z t)) (hd : (x == ("__debug__" : Str)) = false := by decide) : DE Γ X (.Name x pos) (mC (.str z)) := by
  obtain ⟨t, hm⟩ := hm
  exact de_c (pe_glob (v := .str z) hg hm ⟨t, rfl⟩ hd) fun _ => rfl
/-- a module's constant of any data -/
theorem de_gd {x : Str} {d : D} {a : Addr} {pos : Pos} (hg : Gl X x) (hm : X.mg x = some (.ref a)) (r : ∀ F, Rep Γ.G F d (.ref a)) (hd : (x == ("__debug__" : Str)) = false := by decide) : DE Γ X (.Name x pos) (mC d) :=
  de_c (pe_glob (v := .ref a) hg hm rfl hd) r

/-! ### operators -/
/-- on data: r is met wherever f has an answer -/
def OpD (G : Gh) (r : R2) (f : D → D → Option D) : Prop := ∀ x y z v w F H S (Q : VK), f x y = some z → Same F H → (G.hs = true → StOK G F H S) → Rep G F x v → Rep G F y w →
  (∀ u F' H', Go G F H S F' H' → Rep G F' z u → Q u H') → r v w H Q
def m2 (f : D → D → Option D) (ma mb : EM) : EM := fun ρ => bnd (ma ρ) fun x => bnd (mb ρ) fun y => ofO (f x y)
theorem td_op {r : R2} {f : D → D → Option D} {ma mb : EM} (hd : OpD Γ.G r f) {σ : L2.St} {H : Hp} {Q : VK} (h : tD Γ (m2 f ma mb) σ H Q) : tOp r (tD Γ ma) (tD Γ mb) σ H Q := by
  refine td_bind (f := fun ρ x => bnd (mb ρ) fun y => ofO (f x y)) h fun ρ S F v x H1 ft rx p => ?_
  refine ⟨ρ, S, F, ft, ?_⟩
  have q := PostK.bind p
  refine q.imp fun y S2 F2 H2 g2 p2 w ry => ?_
  have ft2 := ft.step g2
  cases e : f x y with
  | none => rw [e] at p2; exact p2.elim
  | some z =>
    rw [e] at p2
    exact hd x y z v w F2 H2 S2 Q e ft2.le ft2.st (rx.mono g2.ext) ry fun u F' H' g r => p2 F' H' g u r
theorem de_op {op : Operator} {r : R2} {f : D → D → Option D} {a b : Expr} {ma mb : EM} {pos : Pos} (ho : OpR X (binaryOp op) r) (hd : OpD Γ.G r f) (ha : DE Γ X a ma) (hb : DE Γ X b mb) : DE Γ X (.BinOp a op b pos) (m2 f ma mb) :=
  pe_imp (pe_op ho ha hb) fun _ _ _ => td_op hd
theorem de_cm {op : CmpOp} {r : R2} {f : D → D → Option D} {a b : Expr} {ma mb : EM} {pos : Pos} (ho : OpR X (compareOp op) r) (hd : OpD Γ.G r f) (hm : behindInMarks op b = false) (ha : DE Γ X a ma) (hb : DE Γ X b mb) : DE Γ X (.Compare a [op] [b] pos) (m2 f ma mb) :=
  pe_imp (pe_cmpR ho ha hb hm) fun _ _ _ => td_op hd
/-- the answer is a value without an object -/
theorem opd_flat {G : Gh} {r : R2} {f : D → D → Option D} (h : ∀ x y z v w F H (Q : VK), f x y = some z → Same F H → Rep G F x v → Rep G F y w → (∀ u, (∀ F, Rep G F z u) → Q u H) → r v w H Q) : OpD G r f :=
  fun x y z v w F H S Q e le st rx ry k => h x y z v w F H Q e le rx ry fun u ru => k u F H (Go.refl le st) (ru F)

def fII (g : Int → Int → Option D) : D → D → Option D
  | .int i, .int j => g i j
  | _, _ => none
theorem fII_inv {g : Int → Int → Option D} {x y z : D} (e : fII g x y = some z) : ∃ i j, x = .int i ∧ y = .int j ∧ g i j = some z := by
  cases x <;> first | (cases e; done) | skip
  cases y <;> first | (cases e; done) | skip
  exact ⟨_, _, rfl, rfl, e⟩
theorem opd_I {G : Gh} {C : Int → Int → Prop} {g : Int → Int → Int} {f : Int → Int → Option D} (h : ∀ i j z, f i j = some z → C i j ∧ z = .int (g i j)) : OpD G (rI C fun i j => .int (g i j)) (fII f) := by
  refine opd_flat fun x y z v w F H Q e le rx ry k => ?_
  obtain ⟨i, j, rfl, rfl, e⟩ := fII_inv e
  obtain ⟨c, rfl⟩ := h i j z e
  exact ⟨i, j, rx, ry, c, k _ fun _ => rfl⟩
theorem opd_I0 {G : Gh} {g : Int → Int → Int} : OpD G (rI0 fun i j => .int (g i j)) (fII fun i j => some (.int (g i j))) := by
  refine opd_flat fun x y z v w F H Q e le rx ry k => ?_
  obtain ⟨i, j, rfl, rfl, e⟩ := fII_inv e
  cases e
  exact ⟨i, j, rx, ry, k _ fun _ => rfl⟩
theorem opd_B0 {G : Gh} {g : Int → Int → Bool} : OpD G (rI0 fun i j => .bl (g i j)) (fII fun i j => some (.bl (g i j))) := by
  refine opd_flat fun x y z v w F H Q e le rx ry k => ?_
  obtain ⟨i, j, rfl, rfl, e⟩ := fII_inv e
  cases e
  exact ⟨i, j, rx, ry, k _ fun _ => rfl⟩

/-! ### + - * // % ** -/
def dAdd : D → D → Option D
  | .int i, .int j => some (.int (i + j))
  | .str x, .str y => if x.length + y.length ≤ sizeLine then some (.str (x ++ y)) else none
  | .lst xs, .lst ys => if xs.length + ys.length ≤ sizeLine then some (.lst (xs ++ ys)) else none
  | .tup xs, .tup ys => if xs.length + ys.length ≤ sizeLine then some (.tup (xs ++ ys)) else none
  | _, _ => none
abbrev rStrAdd : R2 := fun x y H Q => ∃ i j, x = .str i ∧ y = .str j ∧ i.length + j.length ≤ sizeLine ∧ Q (.str (i ++ j)) H
abbrev rAddAll (K : PySem.W.Frag) : R2 := fun x y H Q => (rI0 (fun i j => .int (i + j)) x y H Q ∨ rStrAdd x y H Q) ∨ (rCat x y H Q ∨ rCatA K x y H Q)
theorem op_addAll : OpR X (binaryOp .Add) (rAddAll X.K) := OpR.or (OpR.or op_add op_add_str) (OpR.or op_cat op_catA)
theorem opd_add {G : Gh} : OpD G (rAddAll G.K) dAdd := by
  intro x y z v w F H S Q e le st rx ry k
  cases x <;> cases y <;> try (cases e; done)
  · cases e
    exact .inl (.inl ⟨_, _, rx, ry, k _ F H (Go.refl le st) rfl⟩)
  · rename_i i j
    have e' : (if i.length + j.length ≤ sizeLine then some (D.str (i ++ j)) else none) = some z := e
    split at e'
    · rename_i hz
      cases e'
      exact .inl (.inr ⟨_, _, rx, ry, hz, k _ F H (Go.refl le st) rfl⟩)
    · cases e'
  · rename_i xs ys
    have e' : (if xs.length + ys.length ≤ sizeLine then some (D.lst (xs ++ ys)) else none) = some z := e
    split at e'
    · rename_i hz
      cases e'
      obtain ⟨a, vs, rfl, ha, r1⟩ := rx
      obtain ⟨b, ws, rfl, hb, r2⟩ := ry
      refine .inr (.inl ⟨a, b, vs, ws, rfl, rfl, le _ _ ha, le _ _ hb, by rw [← r1.length, ← r2.length]; exact hz, fun p np => ?_⟩)
      have g := Go.alloc (o := .lst (vs ++ ws)) le st np
      exact k _ _ _ g ⟨p, _, rfl, upd_same, (r1.append r2).mono g.ext⟩
    · cases e'
  · rename_i xs ys
    have e' : (if xs.length + ys.length ≤ sizeLine then some (D.tup (xs ++ ys)) else none) = some z := e
    split at e'
    · rename_i hz
      cases e'
      obtain ⟨a, vs, rfl, ha, r1⟩ := rx
      obtain ⟨b, ws, rfl, hb, r2⟩ := ry
      refine .inr (.inr ⟨a, b, vs, ws, rfl, rfl, same_sqT le ha, same_sqT le hb, by rw [← r1.length, ← r2.length]; exact hz, fun e0 => ?_, fun _ e0 => ?_, fun _ _ p np => ?_⟩)
      · subst e0
        have z0 : xs = [] := List.eq_nil_of_length_eq_zero (by rw [r1.length]; rfl)
        subst z0
        exact k _ F H (Go.refl le st) ⟨b, ws, rfl, hb, r2⟩
      · subst e0
        have z0 : ys = [] := List.eq_nil_of_length_eq_zero (by rw [r2.length]; rfl)
        subst z0
        exact k _ F H (Go.refl le st) ⟨a, vs, rfl, ha, by simpa using r1⟩
      · have g := Go.alloc (o := .tup (vs ++ ws)) le st np
        exact k _ _ _ g ⟨p, _, rfl, .inl (.inl upd_same), (r1.append r2).mono g.ext⟩
    · cases e'
theorem de_add {a b : Expr} {ma mb : EM} {pos : Pos} (c : Cok Γ X k) (ha : DE Γ X a ma) (hb : DE Γ X b mb) : DE Γ X (.BinOp a .Add b pos) (m2 dAdd ma mb) :=
  de_op (r := rAddAll X.K) op_addAll (by rw [← c.hK]; exact opd_add) ha hb
def dSub : D → D → Option D := fII fun i j => some (.int (i - j))
theorem de_sub {a b : Expr} {ma mb : EM} {pos : Pos} (ha : DE Γ X a ma) (hb : DE Γ X b mb) : DE Γ X (.BinOp a .Sub b pos) (m2 dSub ma mb) := de_op op_sub opd_I0 ha hb
/-- a product: one factor below 2 ^ 64 in size -/
def mulOk (i j : Int) : Bool := (decide (-(2 ^ 64) < i) && decide (i < 2 ^ 64)) || (decide (-(2 ^ 64) < j) && decide (j < 2 ^ 64))
def repOk (n : Nat) (j : Int) : Bool := decide (-(2 ^ 63) ≤ j) && (decide (j < 2 ^ 63) && decide (n * j.toNat ≤ sizeLine))
def dMul : D → D → Option D
  | .int i, .int j => if mulOk i j = true then some (.int (i * j)) else none
  | .lst xs, .int j => if repOk xs.length j = true then some (.lst (List.replicate j.toNat xs).flatten) else none
  | _, _ => none
theorem repL_flat {G : Gh} {F : Hp} {ds : List D} {vs : List V} (r : RepL G F ds vs) : ∀ n, RepL G F (List.replicate n ds).flatten (List.replicate n vs).flatten
  | 0 => .nil
  | n + 1 => by
    rw [List.replicate_succ, List.replicate_succ, List.flatten_cons, List.flatten_cons]
    exact r.append (repL_flat r n)
abbrev rMulAll : R2 := fun x y H Q => rI CMul (fun i j => .int (i * j)) x y H Q ∨ rRep x y H Q
theorem opd_mul {G : Gh} : OpD G rMulAll dMul := by
  intro x y z v w F H S Q e le st rx ry k
  cases x <;> cases y <;> try (cases e; done)
  · rename_i i j
    have e' : (if mulOk i j = true then some (D.int (i * j)) else none) = some z := e
    split at e'
    · rename_i hz
      cases e'
      refine .inl ⟨_, _, rx, ry, ?_, k _ F H (Go.refl le st) rfl⟩
      simpa [mulOk, CMul] using hz
    · cases e'
  · rename_i xs j
    have e' : (if repOk xs.length j = true then some (D.lst (List.replicate j.toNat xs).flatten) else none) = some z := e
    split at e'
    · rename_i hz
      cases e'
      obtain ⟨a, vs, rfl, ha, r1⟩ := rx
      cases ry
      have hz' : -(2 ^ 63) ≤ j ∧ j < 2 ^ 63 ∧ xs.length * j.toNat ≤ sizeLine := by simpa [repOk] using hz
      refine .inr ⟨a, j, vs, rfl, rfl, le _ _ ha, hz'.1, hz'.2.1, by rw [← r1.length]; exact hz'.2.2, fun p np => ?_⟩
      have g := Go.alloc (o := .lst (List.replicate j.toNat vs).flatten) le st np
      exact k _ _ _ g ⟨p, _, rfl, upd_same, (repL_flat r1 _).mono g.ext⟩
    · cases e'
theorem de_mul {a b : Expr} {ma mb : EM} {pos : Pos} (ha : DE Γ X a ma) (hb : DE Γ X b mb) : DE Γ X (.BinOp a .Mult b pos) (m2 dMul ma mb) :=
  de_op (OpR.or op_mul op_rep) opd_mul ha hb
def dDiv : D → D → Option D := fII fun i j => if 0 < j ∧ j < 1073741824 then some (.int (i / j)) else none
theorem de_div {a b : Expr} {ma mb : EM} {pos : Pos} (ha : DE Γ X a ma) (hb : DE Γ X b mb) : DE Γ X (.BinOp a .FloorDiv b pos) (m2 dDiv ma mb) :=
  de_op op_fdiv (opd_I fun i j z e => by
    split at e
    · rename_i h
      cases e
      exact ⟨h, rfl⟩
    · cases e) ha hb
def dMod : D → D → Option D := fII fun i j => if 0 < j then some (.int (i % j)) else none
theorem de_mod {a b : Expr} {ma mb : EM} {pos : Pos} (ha : DE Γ X a ma) (hb : DE Γ X b mb) : DE Γ X (.BinOp a .Mod b pos) (m2 dMod ma mb) :=
  de_op op_mod (opd_I fun i j z e => by
    split at e
    · rename_i h
      cases e
      exact ⟨h, rfl⟩
    · cases e) ha hb
def dPow : D → D → Option D := fII fun i j => if 0 ≤ j ∧ j ≤ 1000000 ∧ i.natAbs < 2 ^ 64 then some (.int (i ^ j.toNat)) else none
theorem de_pow {a b : Expr} {ma mb : EM} {pos : Pos} (ha : DE Γ X a ma) (hb : DE Γ X b mb) : DE Γ X (.BinOp a .Pow b pos) (m2 dPow ma mb) :=
  de_op op_pow (opd_I fun i j z e => by
    split at e
    · rename_i h
      cases e
      exact ⟨h, rfl⟩
    · cases e) ha hb
/-! ### < <= > >= -/
def dLt : D → D → Option D := fII fun i j => some (.bl (decide (i < j)))
def dLe : D → D → Option D := fII fun i j => some (.bl (decide (i ≤ j)))
def dGt : D → D → Option D := fII fun i j => some (.bl (decide (j < i)))
def dGe : D → D → Option D := fII fun i j => some (.bl (decide (j ≤ i)))
theorem opd_lt {G : Gh} : OpD G (rI0 fun i j => .bl (decide (i < j))) dLt := opd_B0
theorem opd_le {G : Gh} : OpD G (rI0 fun i j => .bl (decide (i ≤ j))) dLe := opd_B0
theorem opd_gt {G : Gh} : OpD G (rI0 fun i j => .bl (decide (j < i))) dGt := opd_B0
theorem opd_ge {G : Gh} : OpD G (rI0 fun i j => .bl (decide (j ≤ i))) dGe := opd_B0
/-! ### is, is not: None, truths -/
def dIs : D → D → Option D
  | .bl a, .bl b => some (.bl (decide (a = b)))
  | .bl _, .non => some (.bl false)
  | .non, .non => some (.bl true)
  | .int _, .non => some (.bl false)
  | .str _, .non => some (.bl false)
  | .lst _, .non => some (.bl false)
  | .tup _, .non => some (.bl false)
  | .dic _ _, .non => some (.bl false)
  | .dit _ _, .non => some (.bl false)
  | .obj _ _, .non => some (.bl false)
  | .ex _ _, .non => some (.bl false)
  | _, _ => none
def dNot : Option D → Option D
  | some (.bl b) => some (.bl !b)
  | _ => none
def dIsNot (x y : D) : Option D := dNot (dIs x y)
abbrev rIsAll : R2 := fun x y H Q => (y = .non ∧ Q (.bl (decide (x = .non))) H) ∨ rIsB x y H Q
abbrev rIsNotAll : R2 := fun x y H Q => (y = .non ∧ Q (.bl (!decide (x = .non))) H) ∨ rNotB x y H Q
theorem op_isAll : OpR X (compareOp .Is) rIsAll := OpR.or op_isN op_isBl
theorem op_isNotAll : OpR X (compareOp .IsNot) rIsNotAll := OpR.or op_notN op_notBl
theorem is_inv {G : Gh} {x y z : D} (e : dIs x y = some z) {F : Hp} {v w : V} (rx : Rep G F x v) (ry : Rep G F y w) :
    (w = .non ∧ z = .bl (decide (v = .non))) ∨ ∃ a b, v = .bl a ∧ w = .bl b ∧ z = .bl (decide (a = b)) := by
  cases y with
  | non =>
    cases ry
    refine .inl ⟨rfl, ?_⟩
    cases x <;> try (cases e; done)
    case non => cases rx; cases e; rfl
    case bl => cases rx; cases e; rfl
    case int => cases rx; cases e; rfl
    case str => cases rx; cases e; rfl
    case lst => obtain ⟨a, vs, rfl, _⟩ := rx; cases e; rfl
    case tup => obtain ⟨a, vs, rfl, _⟩ := rx; cases e; rfl
    case dic => obtain ⟨a, vs, rfl, _⟩ := rx; cases e; rfl
    case dit => obtain ⟨a, vs, rfl, _⟩ := rx; cases e; rfl
    case obj => obtain ⟨a, dx, vs, rfl, _⟩ := rx; cases e; rfl
    case ex => obtain ⟨a, rfl, _⟩ := rx; cases e; rfl
  | bl b =>
    cases ry
    cases x <;> try (cases e; done)
    case bl => cases rx; cases e; exact .inr ⟨_, _, rfl, rfl, rfl⟩
  | _ => cases x <;> (cases e; done)
theorem opd_is {G : Gh} : OpD G rIsAll dIs := by
  intro x y z v w F H S Q e le st rx ry k
  rcases is_inv e rx ry with ⟨h, rfl⟩ | ⟨a, b, h1, h2, rfl⟩
  · exact .inl ⟨h, k _ F H (Go.refl le st) rfl⟩
  · exact .inr ⟨a, b, h1, h2, k _ F H (Go.refl le st) rfl⟩
theorem opd_isNot {G : Gh} : OpD G rIsNotAll dIsNot := by
  intro x y z v w F H S Q e le st rx ry k
  unfold dIsNot at e
  cases q : dIs x y with
  | none => rw [q] at e; cases e
  | some z' =>
    rw [q] at e
    rcases is_inv q rx ry with ⟨h, rfl⟩ | ⟨a, b, h1, h2, rfl⟩
    · cases e
      exact .inl ⟨h, k _ F H (Go.refl le st) rfl⟩
    · cases e
      exact .inr ⟨a, b, h1, h2, k _ F H (Go.refl le st) rfl⟩
end
end Dv

/-! Dv2: and or not, chains, ==, isinstance, calls of builtins, displays, subscripts. -/
namespace Dv
open PySem PySem.Spec L2
section
variable {Γ : Gam} {X : Cx} {k : Nat}

/-! ### truths -/
def mB (m : EM) : Rho → M Bool := fun ρ => bnd (m ρ) asB
theorem asB_inv {G : Gh} {E : XK} {F H : Hp} {S : DS} {d : D} {K : Bool → DS → Hp → Hp → Prop} (h : PostK G E F H (asB d S) K) (le : Same F H) (st : G.hs = true → StOK G F H S) : ∃ b, d = .bl b ∧ K b S F H := by
  cases d with
  | bl b => exact ⟨b, rfl, h F H (Go.refl le st)⟩
  | _ => exact h.elim
/-- from a test's wish to a value's -/
theorem td_asB {m : EM} {σ : L2.St} {H : Hp} {Q : Bool → Hp → Prop} (h : tDT Γ (mB m) σ H Q) : tD Γ m σ H fun x H1 => ∃ c, x = .bl c ∧ Q c H1 := by
  obtain ⟨ρ, S, F, ft, p⟩ := h
  refine ⟨ρ, S, F, ft, (PostK.bind p).imp fun d S1 F1 H1 g p1 v rv => ?_⟩
  have ft1 := ft.step g
  obtain ⟨b, rfl, q⟩ := asB_inv p1 ft1.le ft1.st
  exact ⟨b, rv, q⟩
/-- any expression as a test -/
theorem dt_val {e : Expr} {m : EM} (h : DE Γ X e m) (he : ∀ whole, isTrue e X.env whole = (do let v ← whole; standAt e.pos; holding [v] (truthy v)) := by intro _; rfl) : DT Γ X e (mB m) := pt_imp (pt_val h he) fun _ _ _ h => td_asB h
/-- a comparison as a test -/
theorem dt_cm {op : CmpOp} {r : R2} {f : D → D → Option D} {a b : Expr} {ma mb : EM} {pos : Pos} (ho : OpR X (compareOp op) r) (hd : OpD Γ.G r f) (hm : behindInMarks op b = false) (ha : DE Γ X a ma) (hb : DE Γ X b mb) : DT Γ X (.Compare a [op] [b] pos) (mB (m2 f ma mb)) :=
  pt_imp (pt_cmpR ho ha hb hm) fun σ H Q h => td_op hd (td_asB h)
/-- run the first part, of any kind -/
theorem fit_bind {α β : Type} {ma : Rho → M α} {f : Rho → α → M β} {ρ : Rho} {S : DS} {F H : Hp} {σ : L2.St} {K : β → DS → Hp → Hp → Prop} (ft : Fit Γ ρ S F σ H) (p : PostK Γ.G Γ.E F H (bnd (ma ρ) (f ρ) S) K) :
    PostK Γ.G Γ.E F H (ma ρ S) fun a S1 F1 H1 => Fit Γ ρ S1 F1 σ H1 ∧ Same F F1 ∧ PostK Γ.G Γ.E F1 H1 (f ρ a S1) K :=
  (PostK.bind p).imp fun a S1 F1 H1 g q => ⟨ft.step g, g.ext, q⟩
def mIte {α : Type} (c : Rho → M Bool) (a b : Rho → M α) : Rho → M α := fun ρ => bnd (c ρ) fun t => if t = true then a ρ else b ρ
def mAndT (a b : Rho → M Bool) : Rho → M Bool := mIte a b fun _ => ret false
def mOrT (a b : Rho → M Bool) : Rho → M Bool := mIte a (fun _ => ret true) b
def mNotT (a : Rho → M Bool) : Rho → M Bool := fun ρ => bnd (a ρ) fun t => ret (!t)
theorem dw_and1 {a : Expr} {m : Rho → M Bool} {pos : Pos} (h : DT Γ X a m) : DW Γ X (.BoolOp .And [a] pos) m := pw_and1 h
theorem dw_or1 {a : Expr} {m : Rho → M Bool} {pos : Pos} (h : DT Γ X a m) : DW Γ X (.BoolOp .Or [a] pos) m := pw_or1 h
theorem dw_and {a b : Expr} {rest : List Expr} {ma mb : Rho → M Bool} {pos : Pos} (ha : DT Γ X a ma) (hb : DW Γ X (.BoolOp .And (b :: rest) pos) mb) : DW Γ X (.BoolOp .And (a :: b :: rest) pos) (mAndT ma mb) := by
  refine pw_imp (pw_and ha hb) fun σ H Q ⟨ρ, S, F, ft, p⟩ => ⟨ρ, S, F, ft, (fit_bind (f := fun ρ t => if t = true then mb ρ else ret false) ft p).imp fun c S1 F1 H1 g ⟨f1, _, p1⟩ => ?_⟩
  cases c with
  | true => exact ⟨ρ, S1, F1, f1, p1⟩
  | false => exact p1 F1 H1 f1.refl
theorem dw_or {a b : Expr} {rest : List Expr} {ma mb : Rho → M Bool} {pos : Pos} (ha : DT Γ X a ma) (hb : DW Γ X (.BoolOp .Or (b :: rest) pos) mb) : DW Γ X (.BoolOp .Or (a :: b :: rest) pos) (mOrT ma mb) := by
  refine pw_imp (pw_or ha hb) fun σ H Q ⟨ρ, S, F, ft, p⟩ => ⟨ρ, S, F, ft, (fit_bind (f := fun ρ t => if t = true then ret true else mb ρ) ft p).imp fun c S1 F1 H1 g ⟨f1, _, p1⟩ => ?_⟩
  cases c with
  | true => exact p1 F1 H1 f1.refl
  | false => exact ⟨ρ, S1, F1, f1, p1⟩
theorem dt_not {a : Expr} {m : Rho → M Bool} {pos : Pos} (h : DT Γ X a m) : DT Γ X (.UnaryOp .Not a pos) (mNotT m) :=
  pt_imp (pt_not h) fun σ H Q ⟨ρ, S, F, ft, p⟩ => ⟨ρ, S, F, ft, (fit_bind (f := fun ρ t => ret (!t)) ft p).imp fun c S1 F1 H1 g ⟨f1, _, p1⟩ => p1 F1 H1 f1.refl⟩
theorem dt_w {e : Expr} {m : Rho → M Bool} (h : DW Γ X e m) : DT Γ X e m := PW.pt h
/-! as values -/
def mAndV (a b : EM) : EM := fun ρ => bnd (a ρ) fun x => bnd (asB x) fun t => if t = true then b ρ else ret (.bl false)
def mOrV (a b : EM) : EM := fun ρ => bnd (a ρ) fun x => bnd (asB x) fun t => if t = true then ret (.bl true) else b ρ
def mNotV (a : EM) : EM := fun ρ => bnd (a ρ) fun x => bnd (asB x) fun t => ret (.bl !t)
theorem de_one {op : BoolOp} {a : Expr} {m : EM} {pos : Pos} (h : DE Γ X a m) : DE Γ X (.BoolOp op [a] pos) m := pe_one h
/-- a value, then its truth -/
theorem fit_asB {m : EM} {f : Rho → Bool → M D} {ρ : Rho} {S : DS} {F H : Hp} {σ : L2.St} {Q : VK} (ft : Fit Γ ρ S F σ H) (p : Post Γ.G Γ.E F H (bnd (m ρ) (fun x => bnd (asB x) (f ρ)) S) Q) {R : VK}
    (k : ∀ b S1 F1 H1, Fit Γ ρ S1 F1 σ H1 → Post Γ.G Γ.E F1 H1 (f ρ b S1) Q → R (.bl b) H1) : Post Γ.G Γ.E F H (m ρ S) R :=
  (fit_bind (f := fun ρ x => bnd (asB x) (f ρ)) ft p).imp fun d S1 F1 H1 g ⟨f1, _, p1⟩ v rv => by
    cases d with
    | bl b => cases rv; exact k b S1 F1 H1 f1 p1
    | _ => exact p1.elim
theorem de_and {a b : Expr} {rest : List Expr} {ma mb : EM} {pos : Pos} (ha : DE Γ X a ma) (hb : DE Γ X (.BoolOp .And (b :: rest) pos) mb) : DE Γ X (.BoolOp .And (a :: b :: rest) pos) (mAndV ma mb) := by
  refine pe_imp (pe_and ha hb) fun σ H Q ⟨ρ, S, F, ft, p⟩ => ⟨ρ, S, F, ft, fit_asB (f := fun ρ t => if t = true then mb ρ else ret (.bl false)) ft p fun c S1 F1 H1 f1 p1 => ⟨c, rfl, ?_⟩⟩
  cases c with
  | true => exact ⟨ρ, S1, F1, f1, p1⟩
  | false => exact post_ret p1 f1.le f1.st rfl
theorem de_or {a b : Expr} {rest : List Expr} {ma mb : EM} {pos : Pos} (ha : DE Γ X a ma) (hb : DE Γ X (.BoolOp .Or (b :: rest) pos) mb) : DE Γ X (.BoolOp .Or (a :: b :: rest) pos) (mOrV ma mb) := by
  refine pe_imp (pe_or ha hb) fun σ H Q ⟨ρ, S, F, ft, p⟩ => ⟨ρ, S, F, ft, fit_asB (f := fun ρ t => if t = true then ret (.bl true) else mb ρ) ft p fun c S1 F1 H1 f1 p1 => ⟨c, rfl, ?_⟩⟩
  cases c with
  | true => exact post_ret p1 f1.le f1.st rfl
  | false => exact ⟨ρ, S1, F1, f1, p1⟩
theorem de_not {a : Expr} {m : EM} {pos : Pos} (h : DE Γ X a m) : DE Γ X (.UnaryOp .Not a pos) (mNotV m) :=
  pe_imp (pe_not h) fun σ H Q ⟨ρ, S, F, ft, p⟩ => ⟨ρ, S, F, ft, fit_asB (f := fun ρ t => ret (.bl !t)) ft p fun c S1 F1 H1 f1 p1 => ⟨c, rfl, post_ret p1 f1.le f1.st rfl⟩⟩
theorem de_if {c a b : Expr} {mc : Rho → M Bool} {ma mb : EM} {pos : Pos} (hc : DT Γ X c mc) (ha : DE Γ X a ma) (hb : DE Γ X b mb) : DE Γ X (.IfExp c a b pos) (mIte mc ma mb) := by
  refine pe_imp (pe_ifExp hc ha hb) fun σ H Q ⟨ρ, S, F, ft, p⟩ => ⟨ρ, S, F, ft, (fit_bind (f := fun ρ t => if t = true then ma ρ else mb ρ) ft p).imp fun c S1 F1 H1 g ⟨f1, _, p1⟩ => ?_⟩
  cases c with
  | true => exact ⟨ρ, S1, F1, f1, p1⟩
  | false => exact ⟨ρ, S1, F1, f1, p1⟩
/-! ### a < b < c, of ints -/
def mCh (f g : D → D → Option D) (ma mb mc : EM) : EM := fun ρ => bnd (ma ρ) fun x => bnd (mb ρ) fun y => bnd (ofO (f x y)) fun z => bnd (asB z) fun t => if t = true then bnd (mc ρ) fun w => ofO (g y w) else ret (.bl false)
theorem td_chain {r r' : R2} {f g : D → D → Option D} {ma mb mc : EM} (hf : OpD Γ.G r f) (hg : OpD Γ.G r' g) {σ : L2.St} {H : Hp} {Q : VK} (h : tD Γ (mCh f g ma mb mc) σ H Q) : tChain r r' (tD Γ ma) (tD Γ mb) (tD Γ mc) σ H Q := by
  obtain ⟨ρ, S, F, ft, p⟩ := h
  refine ⟨ρ, S, F, ft, (PostK.bind p).imp fun x S1 F1 H1 g1 p1 v rx => ?_⟩
  have f1 := ft.step g1
  refine ⟨ρ, S1, F1, f1, (PostK.bind p1).imp fun y S2 F2 H2 g2 p2 w ry => ?_⟩
  have f2 := f1.step g2
  cases e : f x y with
  | none => rw [e] at p2; exact p2.elim
  | some z =>
    rw [e] at p2
    refine hf x y z v w F2 H2 S2 _ e f2.le f2.st (rx.mono g2.ext) ry fun u F3 H3 g3 rz => ?_
    have f3 := f2.step g3
    have p3 := p2.go g3
    cases z with
    | bl b =>
      cases rz
      refine ⟨b, rfl, ?_⟩
      cases b with
      | false => exact post_ret p3 f3.le f3.st rfl
      | true =>
        have p3 : Post Γ.G Γ.E F3 H3 ((bnd (mc ρ) fun w => ofO (g y w)) S2) Q := p3
        refine ⟨ρ, S2, F3, f3, (PostK.bind p3).imp fun q S4 F4 H4 g4 p4 u ru => ?_⟩
        have f4 := f3.step g4
        cases e' : g y q with
        | none => rw [e'] at p4; exact p4.elim
        | some z' =>
          rw [e'] at p4
          exact hg y q z' w u F4 H4 S4 Q e' f4.le f4.st ((ry.mono g3.ext).mono g4.ext) ru fun u F' H' g r => p4 F' H' g u r
    | _ => exact p3.elim
theorem de_chain {op op' : CmpOp} {r r' : R2} {f g : D → D → Option D} {a b c : Expr} {ma mb mc : EM} {pos : Pos} (ho : OpR X (compareOp op) r) (ho' : OpR X (compareOp op') r') (hf : OpD Γ.G r f) (hg : OpD Γ.G r' g) (ha : DE Γ X a ma) (hb : DE Γ X b mb) (hc : DE Γ X c mc)
    (hm : lastMarks [op, op'] [b, c] = false := by with_unfolding_all rfl) : DE Γ X (.Compare a [op, op'] [b, c] pos) (mCh f g ma mb mc) :=
  pe_imp (pe_chain ho ho' ha hb hc hm) fun _ _ _ => td_chain hf hg
theorem dt_chain {op op' : CmpOp} {r r' : R2} {f g : D → D → Option D} {a b c : Expr} {ma mb mc : EM} {pos : Pos} (ho : OpR X (compareOp op) r) (ho' : OpR X (compareOp op') r') (hf : OpD Γ.G r f) (hg : OpD Γ.G r' g) (ha : DE Γ X a ma) (hb : DE Γ X b mb) (hc : DE Γ X c mc)
    (hm : lastMarks [op, op'] [b, c] = false := by with_unfolding_all rfl) : DT Γ X (.Compare a [op, op'] [b, c] pos) (mB (mCh f g ma mb mc)) :=
  pt_imp (pt_chain ho ho' ha hb hc hm) fun σ H Q h => td_chain hf hg (td_asB h)

/-! ### == != of data -/
mutual
def toP : D → Option PyData
  | .non => some .none
  | .bl b => some (.bool b)
  | .int i => some (.int i)
  | .str x => some (.str x)
  | .lst xs => (toPs xs).map .list
  | .tup xs => (toPs xs).map .tuple
  | .dic _ _ => none
  | .dit _ _ => none
  | .obj _ _ => none
  | .ex _ _ => none
  | .scr ns => some (.list (ns.map PyData.int))
  | .stt => none
def toPs : List D → Option (List PyData)
  | [] => some []
  | x :: xs => match toP x, toPs xs with
    | some d, some ds => some (d :: ds)
    | _, _ => none
end
theorem dpAll_ints {K : PySem.W.Frag} {H : Hp} : ∀ ns : List Int, DpAll K H (ns.map V.int) (ns.map PyData.int)
  | [] => .nil
  | n :: ns => .cons (.int n) (dpAll_ints ns)
mutual
theorem dp_of {G : Gh} {F H : Hp} (le : Same F H) : ∀ {x : D} {v : V} {d : PyData}, Rep G F x v → toP x = some d → Dp G.K H v d
  | .non, _, _, r, e => by cases r; cases e; exact .non
  | .bl b, _, _, r, e => by cases r; cases e; exact .bl b
  | .int i, _, _, r, e => by cases r; cases e; exact .int i
  | .str x, _, _, r, e => by cases r; cases e; exact .str x
  | .lst xs, _, dd, ⟨a, vs, h1, h2, h3⟩, e => by
    subst h1
    cases q : toPs xs with
    | none => simp [toP, q] at e
    | some ds =>
      have e' : PyData.list ds = dd := by simpa [toP, q] using e
      subst e'
      exact .lst (.inl (.inl (le _ _ h2))) (dp_ofs le h3 q)
  | .tup xs, _, dd, ⟨a, vs, h1, h2, h3⟩, e => by
    subst h1
    cases q : toPs xs with
    | none => simp [toP, q] at e
    | some ds =>
      have e' : PyData.tuple ds = dd := by simpa [toP, q] using e
      subst e'
      exact .tup (same_sqT le h2) (dp_ofs le h3 q)
  | .dic _ _, _, _, _, e => by cases e
  | .dit _ _, _, _, _, e => by cases e
  | .obj _ _, _, _, _, e => by cases e
  | .ex _ _, _, _, _, e => by cases e
  | .scr ns, _, _, ⟨a, h1, h2⟩, e => by
    subst h1
    cases e
    exact .lst (Same.seq le h2) (dpAll_ints ns)
  | .stt, _, _, _, e => by cases e
theorem dp_ofs {G : Gh} {F H : Hp} (le : Same F H) : ∀ {xs : List D} {vs : List V} {ds : List PyData}, RepL G F xs vs → toPs xs = some ds → DpAll G.K H vs ds
  | [], _, _, r, e => by cases (show _ = [] from r); cases e; exact .nil
  | x :: xs, _, dd, ⟨v, ws, h1, h2, h3⟩, e => by
    subst h1
    cases q : toP x with
    | none => simp [toPs, q] at e
    | some d =>
      cases q' : toPs xs with
      | none => simp [toPs, q, q'] at e
      | some ds' =>
        have e' : d :: ds' = dd := by simpa [toPs, q, q'] using e
        subst e'
        exact .cons (dp_of le h2 q) (dp_ofs le h3 q')
end
def dEq (x y : D) : Option D := match toP x, toP y with
  | some d, some e => if SeqAt.shaped d = true ∧ SeqAt.shaped e = true then some (.bl (PyData.eqv d e)) else none
  | _, _ => none
def dNe (x y : D) : Option D := dNot (dEq x y)
theorem eq_inv {x y z : D} (e : dEq x y = some z) : ∃ d e', toP x = some d ∧ toP y = some e' ∧ SeqAt.shaped d = true ∧ SeqAt.shaped e' = true ∧ z = .bl (PyData.eqv d e') := by
  unfold dEq at e
  split at e
  · split at e
    · rename_i h
      cases e
      exact ⟨_, _, by assumption, by assumption, h.1, h.2, rfl⟩
    · cases e
  · cases e
theorem opd_eq {G : Gh} : OpD G (rEqD G.K) dEq := by
  intro x y z v w F H S Q e le st rx ry k
  obtain ⟨d, e', h1, h2, h3, h4, rfl⟩ := eq_inv e
  exact ⟨d, e', dp_of le rx h1, dp_of le ry h2, h3, h4, k _ F H (Go.refl le st) rfl⟩
theorem opd_ne {G : Gh} : OpD G (rNeD G.K) dNe := by
  intro x y z v w F H S Q e le st rx ry k
  unfold dNe at e
  cases q : dEq x y with
  | none => rw [q] at e; cases e
  | some z' =>
    obtain ⟨d, e', h1, h2, h3, h4, rfl⟩ := eq_inv q
    rw [q] at e
    cases e
    exact ⟨d, e', dp_of le rx h1, dp_of le ry h2, h3, h4, k _ F H (Go.refl le st) rfl⟩
theorem op_eqc (c : Cok Γ X k) : OpR X (compareOp .Eq) (rEqD Γ.G.K) := by rw [c.hK]; exact op_eqD c.hu
theorem op_nec (c : Cok Γ X k) : OpR X (compareOp .NotEq) (rNeD Γ.G.K) := by rw [c.hK]; exact op_neD c.hu

/-! ### in, not in: a list or tuple of flat items -/
def flatD : D → Bool
  | .non => true
  | .bl _ => true
  | .int _ => true
  | .str _ => true
  | _ => false
def eqF : D → D → Bool
  | .non, .non => true
  | .bl a, .bl b => eqV (.bl a) (.bl b)
  | .bl a, .int b => eqV (.bl a) (.int b)
  | .int a, .bl b => eqV (.int a) (.bl b)
  | .int a, .int b => eqV (.int a) (.int b)
  | .str a, .str b => eqV (.str a) (.str b)
  | _, _ => false
theorem flat_rep {G : Gh} {F : Hp} {d : D} {v : V} (r : Rep G F d v) (f : flatD d = true) : flatV v = true := by
  cases d <;> first | (cases f; done) | (cases r; rfl)
theorem eqF_rep {G : Gh} {F : Hp} {x y : D} {v w : V} (rx : Rep G F x v) (ry : Rep G F y w) (fx : flatD x = true) (fy : flatD y = true) : eqV v w = eqF x y := by
  cases x <;> first | (cases fx; done) | (cases rx; cases y <;> first | (cases fy; done) | (cases ry; rfl))
def dIn (x y : D) : Option D := match y with
  | .lst ys => if flatD x = true ∧ ys.all flatD = true then some (.bl (ys.any fun y => eqF y x)) else none
  | .tup ys => if flatD x = true ∧ ys.all flatD = true then some (.bl (ys.any fun y => eqF y x)) else none
  | _ => none
def dNotIn (x y : D) : Option D := dNot (dIn x y)
theorem flats_rep {G : Gh} {F : Hp} : ∀ {xs : List D} {vs : List V}, RepL G F xs vs → xs.all flatD = true → vs.all flatV = true
  | [], _, r, _ => by cases (show _ = [] from r); rfl
  | x :: xs, _, ⟨v, ws, h1, h2, h3⟩, f => by
    subst h1
    rw [List.all_cons, Bool.and_eq_true] at f ⊢
    exact ⟨flat_rep h2 f.1, flats_rep h3 f.2⟩
theorem any_rep {G : Gh} {F : Hp} {x : D} {v : V} (rx : Rep G F x v) (fx : flatD x = true) : ∀ {xs : List D} {vs : List V}, RepL G F xs vs → xs.all flatD = true → inV v vs = xs.any fun y => eqF y x
  | [], _, r, _ => by cases (show _ = [] from r); rfl
  | y :: xs, _, ⟨w, ws, h1, h2, h3⟩, f => by
    subst h1
    rw [List.all_cons, Bool.and_eq_true] at f
    unfold inV
    rw [List.any_cons, List.any_cons, eqF_rep h2 rx f.1 fx]
    congr 1
    exact any_rep rx fx h3 f.2
theorem in_inv {G : Gh} {x y z : D} (e : dIn x y = some z) {F H : Hp} {v w : V} (le : Same F H) (rx : Rep G F x v) (ry : Rep G F y w) :
    ∃ p xs, w = .ref p ∧ (SqL G.K H p xs ∨ SqT G.K H p xs) ∧ flatV v = true ∧ xs.all flatV = true ∧ z = .bl (inV v xs) := by
  unfold dIn at e
  split at e
  · split at e
    · rename_i ys h
      cases e
      obtain ⟨a, vs, rfl, ha, r⟩ := ry
      exact ⟨a, vs, rfl, .inl (.inl (.inl (le _ _ ha))), flat_rep rx h.1, flats_rep r h.2, by rw [any_rep rx h.1 r h.2]⟩
    · cases e
  · split at e
    · rename_i ys h
      cases e
      obtain ⟨a, vs, rfl, ha, r⟩ := ry
      exact ⟨a, vs, rfl, .inr (same_sqT le ha), flat_rep rx h.1, flats_rep r h.2, by rw [any_rep rx h.1 r h.2]⟩
    · cases e
  · cases e
theorem opd_in {G : Gh} : OpD G (rIn G.K false) dIn := by
  intro x y z v w F H S Q e le st rx ry k
  obtain ⟨p, xs, h1, h2, h3, h4, rfl⟩ := in_inv e le rx ry
  exact ⟨p, xs, h1, h2, h3, h4, k _ F H (Go.refl le st) rfl⟩
theorem opd_notIn {G : Gh} : OpD G (rIn G.K true) dNotIn := by
  intro x y z v w F H S Q e le st rx ry k
  unfold dNotIn at e
  cases q : dIn x y with
  | none => rw [q] at e; cases e
  | some z' =>
    obtain ⟨p, xs, h1, h2, h3, h4, rfl⟩ := in_inv q le rx ry
    rw [q] at e
    cases e
    exact ⟨p, xs, h1, h2, h3, h4, k _ F H (Go.refl le st) rfl⟩
theorem op_inc (c : Cok Γ X k) : OpR X (compareOp .In) (rIn Γ.G.K false) := by rw [c.hK]; exact op_in_seq
theorem op_notInc (c : Cok Γ X k) : OpR X (compareOp .NotIn) (rIn Γ.G.K true) := by rw [c.hK]; exact op_notIn_seq

/-! ### argument lists, displays -/
def mNil : Rho → M (List D) := fun _ => ret []
def mCons (m : EM) (ms : Rho → M (List D)) : Rho → M (List D) := fun ρ => bnd (m ρ) fun x => bnd (ms ρ) fun xs => ret (x :: xs)
theorem da_nil : DA Γ X [] mNil := pa_imp pa_nil fun σ H Q ⟨ρ, S, F, ft, p⟩ => p F H ft.refl [] .nil
theorem da_cons {e : Expr} {es : List Expr} {m : EM} {ms : Rho → M (List D)} (h : DE Γ X e m) (hs : DA Γ X es ms) (hst : starEach (e :: es) X.env = (false, eval e X.env) :: starEach es X.env := by rfl) : DA Γ X (e :: es) (mCons m ms) := by
  refine pa_imp (pa_cons h hs hst) fun σ H Q ⟨ρ, S, F, ft, p⟩ => ⟨ρ, S, F, ft, (fit_bind (f := fun ρ x => bnd (ms ρ) fun xs => ret (x :: xs)) ft p).imp fun x S1 F1 H1 g ⟨f1, _, p1⟩ v rv => ?_⟩
  refine ⟨ρ, S1, F1, f1, (fit_bind (f := fun ρ xs => ret (x :: xs)) f1 p1).imp fun xs S2 F2 H2 g2 ⟨f2, e2, p2⟩ vs rvs => ?_⟩
  exact p2 F2 H2 f2.refl _ (.cons (rv.mono e2) rvs)
def dTup (xs : List D) : Option D := if xs.length ≤ sizeLine then some (.tup xs) else none
def dLst (xs : List D) : Option D := if xs.length ≤ sizeLine then some (.lst xs) else none
def mA (f : List D → Option D) (m : Rho → M (List D)) : EM := fun ρ => bnd (m ρ) fun xs => ofO (f xs)
/-- behind an argument list -/
theorem ta_bind {β : Type} {m : Rho → M (List D)} {f : Rho → List D → M D} {σ : L2.St} {H : Hp} {Q : VK} (h : tD Γ (fun ρ => bnd (m ρ) (f ρ)) σ H Q) {R : List V → Hp → Prop}
    (k : ∀ ρ S F ds vs H1, Fit Γ ρ S F σ H1 → RepL Γ.G F ds vs → Post Γ.G Γ.E F H1 (f ρ ds S) Q → R vs H1) : tDA Γ m σ H R := by
  obtain ⟨ρ, S, F, ft, p⟩ := h
  exact ⟨ρ, S, F, ft, (fit_bind (f := f) ft p).imp fun ds S1 F1 H1 g ⟨f1, _, p1⟩ vs rvs => k ρ S1 F1 ds vs H1 f1 rvs p1⟩
theorem de_tup {es : List Expr} {n : Nat} {pos : Pos} {m : Rho → M (List D)} (h : DA Γ X es m) : DE Γ X (.Tuple es n pos) (mA dTup m) := by
  refine pe_imp (pe_tup h) fun σ H Q hq => ta_bind (β := D) (f := fun _ xs => ofO (dTup xs)) hq fun ρ S F ds vs H1 ft r p => ?_
  unfold dTup at p
  split at p
  · rename_i hz
    refine ⟨by rw [← r.length]; exact hz, fun q nq => ?_⟩
    have g := Go.alloc (o := .tup vs) ft.le ft.st nq
    exact p _ _ g _ ⟨q, vs, rfl, .inl (.inl upd_same), r.mono g.ext⟩
  · exact p.elim
theorem de_lst {es : List Expr} {pos : Pos} {m : Rho → M (List D)} (h : DA Γ X es m) : DE Γ X (.List es pos) (mA dLst m) := by
  refine pe_imp (pe_lst h) fun σ H Q hq => ta_bind (β := D) (f := fun _ xs => ofO (dLst xs)) hq fun ρ S F ds vs H1 ft r p => ?_
  unfold dLst at p
  split at p
  · rename_i hz
    refine ⟨by rw [← r.length]; exact hz, fun q nq => ?_⟩
    have g := Go.alloc (o := .lst vs) ft.le ft.st nq
    exact p _ _ g _ ⟨q, vs, rfl, upd_same, r.mono g.ext⟩
  · exact p.elim

/-! ### calls of builtins -/
def CalD (G : Gh) (r : List V → Hp → VK → Prop) (f : List D → Option D) : Prop := ∀ ds z vs F H S (Q : VK), f ds = some z → Same F H → (G.hs = true → StOK G F H S) → RepL G F ds vs →
  (∀ u F' H', Go G F H S F' H' → Rep G F' z u → Q u H') → r vs H Q
theorem ta_call {r : List V → Hp → VK → Prop} {f : List D → Option D} {m : Rho → M (List D)} (hd : CalD Γ.G r f) {σ : L2.St} {H : Hp} {Q : VK} (h : tD Γ (mA f m) σ H Q) : tCB r (tDA Γ m) σ H Q := by
  refine ta_bind (β := D) (f := fun _ xs => ofO (f xs)) h fun ρ S F ds vs H1 ft rr p => ?_
  cases e : f ds with
  | none => rw [e] at p; exact p.elim
  | some z =>
    rw [e] at p
    exact hd ds z vs F H1 S Q e ft.le ft.st rr fun u F' H' g r => p F' H' g u r
theorem de_callB {x : Str} {p pos : Pos} {e : Expr} {es : List Expr} {id : String} {r : List V → Hp → VK → Prop} {f : List D → Option D} {m : Rho → M (List D)} (hc : CallR X (.builtin id) r) (hd : CalD Γ.G r f) (hg : Gl X x) (hm : X.mg x = none) (ha : DA Γ X (e :: es) m)
    (hv : bootBuiltins x = some (.builtin id) := by rfl) (hn : x ≠ "__name__" := by decide) (hdb : (x == ("__debug__" : Str)) = false := by decide)
    (he : starEach (e :: es) X.env = (false, eval e X.env) :: starEach es X.env := by rfl) (hpl : (backTo pos (starEach es X.env)).any (·.1) = false := by rfl) : DE Γ X (.Call (.Name x p) (e :: es) [] pos) (mA f m) :=
  pe_imp (pe_callB hc hg hm hv ha hn hdb he hpl) fun _ _ _ => ta_call hd
theorem de_callTy {x : Str} {p pos : Pos} {e : Expr} {es : List Expr} {T : String} {r : List V → Hp → VK → Prop} {f : List D → Option D} {m : Rho → M (List D)} (hc : CallR X (.type T) r) (hd : CalD Γ.G r f) (hg : Gl X x) (hm : X.mg x = none) (ha : DA Γ X (e :: es) m)
    (hv : bootBuiltins x = some (.type T) := by rfl) (hn : x ≠ "__name__" := by decide) (hdb : (x == ("__debug__" : Str)) = false := by decide)
    (he : starEach (e :: es) X.env = (false, eval e X.env) :: starEach es X.env := by rfl) (hpl : (backTo pos (starEach es X.env)).any (·.1) = false := by rfl) : DE Γ X (.Call (.Name x p) (e :: es) [] pos) (mA f m) :=
  pe_imp (pe_callTy hc hg hm hv ha hn hdb he hpl) fun _ _ _ => ta_call hd
end
end Dv

/-! Dv3: the builtins that are called, isinstance, subscripts, slices. -/
namespace Dv
open PySem PySem.Spec L2
section
variable {Γ : Gam} {X : Cx} {k : Nat}

/-! ### len -/
def dLen : List D → Option D
  | [.lst xs] => some (.int xs.length)
  | [.tup xs] => some (.int xs.length)
  | [.scr ns] => some (.int ns.length)
  | [.str z] => if z.length ≤ sizeLine then some (.int z.length) else none
  | _ => none
theorem RepL.one {G : Gh} {F : Hp} {d : D} {vs : List V} (r : RepL G F [d] vs) : ∃ v, vs = [v] ∧ Rep G F d v := by
  obtain ⟨v, ws, h1, h2, h3⟩ := r
  cases (show _ = [] from h3)
  exact ⟨v, h1, h2⟩
theorem RepL.two {G : Gh} {F : Hp} {d e : D} {vs : List V} (r : RepL G F [d, e] vs) : ∃ v w, vs = [v, w] ∧ Rep G F d v ∧ Rep G F e w := by
  obtain ⟨v, ws, h1, h2, h3⟩ := r
  obtain ⟨w, rfl, h4⟩ := h3.one
  exact ⟨v, w, h1, h2, h4⟩
theorem cal_len {G : Gh} : CalD G (fun xs H Q => ∃ x n, xs = [x] ∧ LenV G.K x H n ∧ Q (.int n) H) dLen := by
  intro ds z vs F H S Q e le st r k
  unfold dLen at e
  split at e
  · cases e
    obtain ⟨v, rfl, a, ws, rfl, ha, rr⟩ := r.one
    exact ⟨_, ws.length, rfl, .inl ⟨ws, .inl (.inl (le _ _ ha)), rfl⟩, k _ F H (Go.refl le st) (by rw [rr.length]; exact rfl)⟩
  · cases e
    obtain ⟨v, rfl, a, ws, rfl, ha, rr⟩ := r.one
    exact ⟨_, ws.length, rfl, .inr ⟨ws, same_sqT le ha, rfl⟩, k _ F H (Go.refl le st) (by rw [rr.length]; exact rfl)⟩
  · cases e
    obtain ⟨v, rfl, a, rfl, ha⟩ := r.one
    exact ⟨_, _, rfl, .inl ⟨_, Same.seq le ha, rfl⟩, k _ F H (Go.refl le st) (by rw [List.length_map]; exact rfl)⟩
  · split at e
    · rename_i h
      cases e
      obtain ⟨v, rfl, rr⟩ := r.one
      cases rr
      exact ⟨_, _, rfl, ⟨h, rfl⟩, k _ F H (Go.refl le st) rfl⟩
    · cases e
  · cases e
theorem callr_len (c : Cok Γ X k) : CallR X (.builtin "len") (fun xs H Q => ∃ x n, xs = [x] ∧ LenV Γ.G.K x H n ∧ Q (.int n) H) := by rw [c.hK]; exact call_len

/-! ### int, abs -/
def dInt : List D → Option D
  | [.int i] => some (.int i)
  | [.bl b] => some (.int (if b = true then 1 else 0))
  | _ => none
theorem cal_int {G : Gh} : CalD G (fun xs H Q => (∃ i, xs = [.int i] ∧ Q (.int i) H) ∨ ∃ k, xs = [.bl k] ∧ Q (.int (if k then 1 else 0)) H) dInt := by
  intro ds z vs F H S Q e le st r k
  unfold dInt at e
  split at e
  · cases e
    obtain ⟨v, rfl, rr⟩ := r.one
    cases rr
    exact .inl ⟨_, rfl, k _ F H (Go.refl le st) rfl⟩
  · cases e
    obtain ⟨v, rfl, rr⟩ := r.one
    cases rr
    exact .inr ⟨_, rfl, k _ F H (Go.refl le st) rfl⟩
  · cases e
def dAbs : List D → Option D
  | [.int i] => some (.int (if i < 0 then -i else i))
  | _ => none
theorem cal_abs {G : Gh} : CalD G (fun xs H Q => ∃ i, xs = [.int i] ∧ Q (.int (if i < 0 then -i else i)) H) dAbs := by
  intro ds z vs F H S Q e le st r k
  unfold dAbs at e
  split at e
  · cases e
    obtain ⟨v, rfl, rr⟩ := r.one
    cases rr
    exact ⟨_, rfl, k _ F H (Go.refl le st) rfl⟩
  · cases e

/-! ### lists of intsD, of truths -/
def intsD : List D → Option (List Int)
  | [] => some []
  | .int i :: xs => (intsD xs).map (i :: ·)
  | _ :: _ => none
def boolsD : List D → Option (List Bool)
  | [] => some []
  | .bl i :: xs => (boolsD xs).map (i :: ·)
  | _ :: _ => none
theorem ints_rep {G : Gh} {F : Hp} : ∀ {ds : List D} {vs : List V} {ns : List Int}, RepL G F ds vs → intsD ds = some ns → vs = ns.map V.int
  | [], _, _, r, e => by cases (show _ = [] from r); cases e; rfl
  | x :: xs, _, ns, ⟨v, ws, h1, h2, h3⟩, e => by
    subst h1
    cases x <;> try (cases e; done)
    rename_i i
    cases h2
    cases q : intsD xs with
    | none => simp [intsD, q] at e
    | some ms =>
      have e' : i :: ms = ns := by simpa [intsD, q] using e
      subst e'
      rw [ints_rep h3 q]
      rfl
theorem bools_rep {G : Gh} {F : Hp} : ∀ {ds : List D} {vs : List V} {ns : List Bool}, RepL G F ds vs → boolsD ds = some ns → vs = ns.map V.bl
  | [], _, _, r, e => by cases (show _ = [] from r); cases e; rfl
  | x :: xs, _, ns, ⟨v, ws, h1, h2, h3⟩, e => by
    subst h1
    cases x <;> try (cases e; done)
    rename_i i
    cases h2
    cases q : boolsD xs with
    | none => simp [boolsD, q] at e
    | some ms =>
      have e' : i :: ms = ns := by simpa [boolsD, q] using e
      subst e'
      rw [bools_rep h3 q]
      rfl
def maxL : Int → List Int → Int
  | m, [] => m
  | m, n :: ns => maxL (max m n) ns
def minL : Int → List Int → Int
  | m, [] => m
  | m, n :: ns => minL (min m n) ns
theorem maxL_spec : ∀ (ns : List Int) (m : Int), (maxL m ns = m ∨ maxL m ns ∈ ns) ∧ m ≤ maxL m ns ∧ ∀ y ∈ ns, y ≤ maxL m ns
  | [], m => ⟨.inl rfl, Int.le_refl _, fun _ h => by cases h⟩
  | n :: ns, m => by
    obtain ⟨h1, h2, h3⟩ := maxL_spec ns (max m n)
    refine ⟨?_, Int.le_trans (Int.le_max_left m n) h2, fun y hy => ?_⟩
    · rcases h1 with h1 | h1
      · show maxL (max m n) ns = m ∨ maxL (max m n) ns ∈ n :: ns
        rw [h1]
        rcases Int.le_total m n with q | q
        · exact .inr (by rw [Int.max_eq_right q]; exact List.Mem.head _)
        · exact .inl (Int.max_eq_left q)
      · exact .inr (List.mem_cons_of_mem _ h1)
    · rcases List.mem_cons.mp hy with rfl | hy
      · exact Int.le_trans (Int.le_max_right _ _) h2
      · exact h3 y hy
theorem minL_spec : ∀ (ns : List Int) (m : Int), (minL m ns = m ∨ minL m ns ∈ ns) ∧ minL m ns ≤ m ∧ ∀ y ∈ ns, minL m ns ≤ y
  | [], m => ⟨.inl rfl, Int.le_refl _, fun _ h => by cases h⟩
  | n :: ns, m => by
    obtain ⟨h1, h2, h3⟩ := minL_spec ns (min m n)
    refine ⟨?_, Int.le_trans h2 (Int.min_le_left m n), fun y hy => ?_⟩
    · rcases h1 with h1 | h1
      · show minL (min m n) ns = m ∨ minL (min m n) ns ∈ n :: ns
        rw [h1]
        rcases Int.le_total m n with q | q
        · exact .inl (Int.min_eq_left q)
        · exact .inr (by rw [Int.min_eq_right q]; exact List.Mem.head _)
      · exact .inr (List.mem_cons_of_mem _ h1)
    · rcases List.mem_cons.mp hy with rfl | hy
      · exact Int.le_trans h2 (Int.min_le_right _ _)
      · exact h3 y hy
theorem maxL_is {m n : Int} {ns : List Int} (h1 : m ∈ n :: ns) (h2 : ∀ y ∈ n :: ns, y ≤ m) : m = maxL n ns := by
  obtain ⟨a, b, c⟩ := maxL_spec ns n
  have le1 : maxL n ns ≤ m := a.elim (fun q => by rw [q]; exact h2 n (List.Mem.head _)) fun q => h2 _ (List.mem_cons_of_mem _ q)
  have le2 : m ≤ maxL n ns := (List.mem_cons.mp h1).elim (fun q => by rw [q]; exact b) fun q => c m q
  omega
theorem minL_is {m n : Int} {ns : List Int} (h1 : m ∈ n :: ns) (h2 : ∀ y ∈ n :: ns, m ≤ y) : m = minL n ns := by
  obtain ⟨a, b, c⟩ := minL_spec ns n
  have le1 : m ≤ minL n ns := a.elim (fun q => by rw [q]; exact h2 n (List.Mem.head _)) fun q => h2 _ (List.mem_cons_of_mem _ q)
  have le2 : minL n ns ≤ m := (List.mem_cons.mp h1).elim (fun q => by rw [q]; exact b) fun q => c m q
  omega
def dMax : List D → Option D
  | [.lst xs] => match intsD xs with
    | some (n :: ns) => some (.int (maxL n ns))
    | _ => none
  | [.int i, .int j] => some (.int (max i j))
  | _ => none
def dMin : List D → Option D
  | [.lst xs] => match intsD xs with
    | some (n :: ns) => some (.int (minL n ns))
    | _ => none
  | [.int i, .int j] => some (.int (min i j))
  | _ => none
def dSum : List D → Option D
  | [.lst xs] => (intsD xs).map fun ns => .int ns.sum
  | _ => none
def dAny : List D → Option D
  | [.lst xs] => (boolsD xs).map fun bs => .bl (bs.any id)
  | _ => none
def dAll : List D → Option D
  | [.lst xs] => (boolsD xs).map fun bs => .bl (bs.all id)
  | _ => none
abbrev rMaxAll (K : PySem.W.Frag) : List V → Hp → VK → Prop := fun xs H Q => rMax K xs H Q ∨ ∃ i j, xs = [.int i, .int j] ∧ Q (.int (if j > i then j else i)) H
abbrev rMinAll (K : PySem.W.Frag) : List V → Hp → VK → Prop := fun xs H Q => rMin K xs H Q ∨ ∃ i j, xs = [.int i, .int j] ∧ Q (.int (if j < i then j else i)) H
theorem callr_max (c : Cok Γ X k) : CallR X (.builtin "max") (rMaxAll Γ.G.K) := by rw [c.hK]; exact (cr_max c.calm).or (call_max2 c.calm)
theorem callr_min (c : Cok Γ X k) : CallR X (.builtin "min") (rMinAll Γ.G.K) := by rw [c.hK]; exact (cr_min c.calm).or (call_min2 c.calm)
theorem cal_max {G : Gh} : CalD G (rMaxAll G.K) dMax := by
  intro ds z vs F H S Q e le st r k
  unfold dMax at e
  split at e
  · split at e
    · rename_i n ns q
      cases e
      obtain ⟨v, rfl, a, ws, rfl, ha, rr⟩ := r.one
      have hw := ints_rep rr q
      subst hw
      exact .inl ⟨a, n :: ns, rfl, .inl (.inl (le _ _ ha)), by simp, fun m h1 h2 => by rw [maxL_is h1 h2]; exact k _ F H (Go.refl le st) rfl⟩
    · cases e
  · cases e
    obtain ⟨v, w, rfl, r1, r2⟩ := r.two
    cases r1
    cases r2
    rename_i i j
    refine .inr ⟨i, j, rfl, k _ F H (Go.refl le st) ?_⟩
    show V.int _ = V.int _
    congr 1
    split <;> omega
  · cases e
theorem cal_min {G : Gh} : CalD G (rMinAll G.K) dMin := by
  intro ds z vs F H S Q e le st r k
  unfold dMin at e
  split at e
  · split at e
    · rename_i n ns q
      cases e
      obtain ⟨v, rfl, a, ws, rfl, ha, rr⟩ := r.one
      have hw := ints_rep rr q
      subst hw
      exact .inl ⟨a, n :: ns, rfl, .inl (.inl (le _ _ ha)), by simp, fun m h1 h2 => by rw [minL_is h1 h2]; exact k _ F H (Go.refl le st) rfl⟩
    · cases e
  · cases e
    obtain ⟨v, w, rfl, r1, r2⟩ := r.two
    cases r1
    cases r2
    rename_i i j
    refine .inr ⟨i, j, rfl, k _ F H (Go.refl le st) ?_⟩
    show V.int _ = V.int _
    congr 1
    split <;> omega
  · cases e
theorem callr_sum (c : Cok Γ X k) : CallR X (.builtin "sum") (rSum Γ.G.K) := by rw [c.hK]; exact cr_sum c.calm
theorem callr_any (c : Cok Γ X k) : CallR X (.builtin "any") (rAny Γ.G.K) := by rw [c.hK]; exact cr_any c.calm
theorem callr_all (c : Cok Γ X k) : CallR X (.builtin "all") (rAll Γ.G.K) := by rw [c.hK]; exact cr_all c.calm
theorem cal_sum {G : Gh} : CalD G (rSum G.K) dSum := by
  intro ds z vs F H S Q e le st r k
  unfold dSum at e
  split at e
  · rename_i xs
    cases q : intsD xs with
    | none => rw [q] at e; cases e
    | some ns =>
      rw [q] at e
      cases e
      obtain ⟨v, rfl, a, ws, rfl, ha, rr⟩ := r.one
      have hw := ints_rep rr q
      subst hw
      exact ⟨a, ns, rfl, .inl (.inl (le _ _ ha)), k _ F H (Go.refl le st) rfl⟩
  · cases e
theorem cal_any {G : Gh} : CalD G (rAny G.K) dAny := by
  intro ds z vs F H S Q e le st r k
  unfold dAny at e
  split at e
  · rename_i xs
    cases q : boolsD xs with
    | none => rw [q] at e; cases e
    | some ns =>
      rw [q] at e
      cases e
      obtain ⟨v, rfl, a, ws, rfl, ha, rr⟩ := r.one
      have hw := bools_rep rr q
      subst hw
      exact ⟨a, ns, rfl, .inl (.inl (le _ _ ha)), k _ F H (Go.refl le st) rfl⟩
  · cases e
theorem cal_all {G : Gh} : CalD G (rAll G.K) dAll := by
  intro ds z vs F H S Q e le st r k
  unfold dAll at e
  split at e
  · rename_i xs
    cases q : boolsD xs with
    | none => rw [q] at e; cases e
    | some ns =>
      rw [q] at e
      cases e
      obtain ⟨v, rfl, a, ws, rfl, ha, rr⟩ := r.one
      have hw := bools_rep rr q
      subst hw
      exact ⟨a, ns, rfl, .inl (.inl (le _ _ ha)), k _ F H (Go.refl le st) rfl⟩
  · cases e

/-! ### list(x), tuple(x) -/
def dList : List D → Option D
  | [.lst xs] => some (.lst xs)
  | [.tup xs] => some (.lst xs)
  | _ => none
theorem callr_list (c : Cok Γ X k) : CallR X (.type "list") (fun xs H Q => ∃ p ys, xs = [.ref p] ∧ (SqL Γ.G.K H p ys ∨ SqT Γ.G.K H p ys) ∧ ∀ l, H l = none → Q (.ref l) (upd H l (.lst ys))) := by rw [c.hK]; exact call_list_of
theorem cal_list {G : Gh} : CalD G (fun xs H Q => ∃ p ys, xs = [.ref p] ∧ (SqL G.K H p ys ∨ SqT G.K H p ys) ∧ ∀ l, H l = none → Q (.ref l) (upd H l (.lst ys))) dList := by
  intro ds z vs F H S Q e le st r k
  unfold dList at e
  split at e
  · cases e
    obtain ⟨v, rfl, a, ws, rfl, ha, rr⟩ := r.one
    refine ⟨a, ws, rfl, .inl (.inl (.inl (le _ _ ha))), fun q nq => ?_⟩
    have g := Go.alloc (o := .lst ws) le st nq
    exact k _ _ _ g ⟨q, ws, rfl, upd_same, rr.mono g.ext⟩
  · cases e
    obtain ⟨v, rfl, a, ws, rfl, ha, rr⟩ := r.one
    refine ⟨a, ws, rfl, .inr (same_sqT le ha), fun q nq => ?_⟩
    have g := Go.alloc (o := .lst ws) le st nq
    exact k _ _ _ g ⟨q, ws, rfl, upd_same, rr.mono g.ext⟩
  · cases e
def dTuple : List D → Option D
  | [.lst xs] => some (.tup xs)
  | [.tup xs] => some (.tup xs)
  | _ => none
theorem callr_tuple (c : Cok Γ X k) : CallR X (.type "tuple") (fun xs H Q => ∃ p ys, xs = [.ref p] ∧ ((SqL Γ.G.K H p ys ∧ ∀ l, H l = none → Q (.ref l) (upd H l (.tup ys))) ∨ (SqT Γ.G.K H p ys ∧ Q (.ref p) H))) := by rw [c.hK]; exact call_tuple_of
theorem cal_tuple {G : Gh} : CalD G (fun xs H Q => ∃ p ys, xs = [.ref p] ∧ ((SqL G.K H p ys ∧ ∀ l, H l = none → Q (.ref l) (upd H l (.tup ys))) ∨ (SqT G.K H p ys ∧ Q (.ref p) H))) dTuple := by
  intro ds z vs F H S Q e le st r k
  unfold dTuple at e
  split at e
  · cases e
    obtain ⟨v, rfl, a, ws, rfl, ha, rr⟩ := r.one
    refine ⟨a, ws, rfl, .inl ⟨.inl (.inl (le _ _ ha)), fun q nq => ?_⟩⟩
    have g := Go.alloc (o := .tup ws) le st nq
    exact k _ _ _ g ⟨q, ws, rfl, .inl (.inl upd_same), rr.mono g.ext⟩
  · cases e
    obtain ⟨v, rfl, a, ws, rfl, ha, rr⟩ := r.one
    exact ⟨a, ws, rfl, .inr ⟨same_sqT le ha, k _ F H (Go.refl le st) ⟨a, ws, rfl, ha, rr⟩⟩⟩
  · cases e
/-! ### list(range(..)) -/
def rgD (a b : Int) : List D := (List.range (b - a).toNat).map fun i => .int (a + (i : Nat))
theorem rg_rep {G : Gh} {F : Hp} (a : Int) : ∀ (l : List Nat), RepL G F (l.map fun i => D.int (a + (i : Nat))) (l.map fun i => V.int (a + (i : Nat)))
  | [] => .nil
  | _ :: l => .cons rfl (rg_rep a l)
def rgB (a b : Int) : Bool := decide (-(2 ^ 62) ≤ a) && (decide (a < 2 ^ 62) && (decide (-(2 ^ 62) ≤ b) && (decide (b < 2 ^ 62) && decide ((b - a).toNat ≤ 2 ^ 24))))
theorem rgB_ok {a b : Int} (h : rgB a b = true) : RgOk a b := by simpa [rgB, RgOk] using h
def dRg1 : D → Option (Int × Int)
  | .int n => some (0, n)
  | _ => none
def dRg2 : D → D → Option (Int × Int)
  | .int a, .int b => some (a, b)
  | _, _ => none
def mRgL (o : Rho → M (Int × Int)) : EM := fun ρ => bnd (o ρ) fun p => if rgB p.1 p.2 = true then ret (.lst (rgD p.1 p.2)) else bad
def mRg1 (m : EM) : Rho → M (Int × Int) := fun ρ => bnd (m ρ) fun x => ofO (dRg1 x)
def mRg2 (m n : EM) : Rho → M (Int × Int) := fun ρ => bnd (m ρ) fun x => bnd (n ρ) fun y => ofO (dRg2 x y)
/-- a range's reading -/
def tDRg (Γ : Gam) (o : Rho → M (Int × Int)) : L2.St → Hp → (Int → Int → Hp → Prop) → Prop := fun σ H Q => ∃ ρ S F, Fit Γ ρ S F σ H ∧ PostK Γ.G Γ.E F H (o ρ S) fun p _ _ H' => Q p.1 p.2 H'
theorem td_rg1 {m : EM} {σ : L2.St} {H : Hp} {Q : Int → Int → Hp → Prop} (h : tDRg Γ (mRg1 m) σ H Q) : tRg1 (tD Γ m) σ H Q := by
  obtain ⟨ρ, S, F, ft, p⟩ := h
  refine ⟨ρ, S, F, ft, (fit_bind (f := fun _ x => ofO (dRg1 x)) ft p).imp fun x S1 F1 H1 g ⟨f1, _, p1⟩ v rv => ?_⟩
  cases x <;> try exact p1.elim
  cases rv
  exact ⟨_, rfl, p1 F1 H1 f1.refl⟩
theorem td_rg2 {m n : EM} {σ : L2.St} {H : Hp} {Q : Int → Int → Hp → Prop} (h : tDRg Γ (mRg2 m n) σ H Q) : tRg2 (tD Γ m) (tD Γ n) σ H Q := by
  obtain ⟨ρ, S, F, ft, p⟩ := h
  refine ⟨ρ, S, F, ft, (fit_bind (f := fun ρ x => bnd (n ρ) fun y => ofO (dRg2 x y)) ft p).imp fun x S1 F1 H1 g ⟨f1, _, p1⟩ v rv => ?_⟩
  refine ⟨ρ, S1, F1, f1, (fit_bind (f := fun _ y => ofO (dRg2 x y)) f1 p1).imp fun y S2 F2 H2 g ⟨f2, _, p2⟩ w rw => ?_⟩
  cases x <;> try exact p2.elim
  cases y <;> try exact p2.elim
  cases rv
  cases rw
  exact ⟨_, _, rfl, rfl, p2 F2 H2 f2.refl⟩
theorem rg1_of {a : Expr} {m : EM} {p pos : Pos} (hg : Gl X "range") (hm : X.mg "range" = none) (ha : DE Γ X a m) (na : starEach [a] X.env = (false, eval a X.env) :: starEach [] X.env := by rfl) : PRg X (.Call (.Name "range" p) [a] [] pos) (tDRg Γ (mRg1 m)) :=
  fun pins s σ H Q I h => prg_1 hg hm ha na pins s σ H Q I (td_rg1 h)
theorem rg2_of {a b : Expr} {m n : EM} {p pos : Pos} (hg : Gl X "range") (hm : X.mg "range" = none) (ha : DE Γ X a m) (hb : DE Γ X b n) (na : starEach [a, b] X.env = (false, eval a X.env) :: starEach [b] X.env := by rfl)
    (nb : starEach [b] X.env = (false, eval b X.env) :: starEach [] X.env := by rfl) (hp : (backTo pos (starEach [b] X.env)).any (·.1) = false := by rfl) : PRg X (.Call (.Name "range" p) [a, b] [] pos) (tDRg Γ (mRg2 m n)) :=
  fun pins s σ H Q I h => prg_2 hg hm ha hb na nb hp pins s σ H Q I (td_rg2 h)
theorem de_listRg {e : Expr} {o : Rho → M (Int × Int)} {p pos : Pos} (c : Cok Γ X k) (hg : Gl X "list") (hm : X.mg "list" = none) (he : PRg X e (tDRg Γ o)) (na : starEach [e] X.env = (false, eval e X.env) :: starEach [] X.env := by rfl) : DE Γ X (.Call (.Name "list" p) [e] [] pos) (mRgL o) := by
  refine pe_imp (pe_listRg c.calm hg hm he na) fun σ H Q ⟨ρ, S, F, ft, h⟩ => ⟨ρ, S, F, ft, (fit_bind (α := Int × Int) (β := D) (f := fun _ p => if rgB p.1 p.2 = true then ret (.lst (rgD p.1 p.2)) else bad) ft h).imp fun x S1 F1 H1 g ⟨f1, _, p1⟩ => ?_⟩
  by_cases hb : rgB x.1 x.2 = true
  · rw [if_pos hb] at p1
    refine ⟨rgB_ok hb, fun q nq => ?_⟩
    have g := Go.alloc (o := .lst (rgV x.1 x.2)) f1.le f1.st nq
    exact p1 _ _ g _ ⟨q, _, rfl, upd_same, rg_rep _ _⟩
  · rw [if_neg hb] at p1; exact p1.elim

/-! ### isinstance -/
inductive Tg where
  | bi (n : String) | own (c : Nat)
def tyN : D → Option String
  | .non => some "NoneType"
  | .bl _ => some "bool"
  | .int _ => some "int"
  | .str _ => some "str"
  | .lst _ => some "list"
  | .tup _ => some "tuple"
  | .dic _ _ => some "dict"
  | .dit _ _ => some "dict"
  | .scr _ => some "list"
  | .obj _ _ => none
  | .ex _ _ => none
  | .stt => none
abbrev tyNames : List String := ["NoneType", "bool", "int", "str", "list", "tuple", "dict"]
abbrev tgNames : List String := ["bool", "int", "str", "list", "tuple", "dict"]
def subS (a b : String) : Bool := decide (a = b) || (decide (a = "bool") && decide (b = "int"))
theorem kits : ∀ a ∈ tyNames, ∀ b ∈ tgNames, kitB a b = some (subS a b) := by decide +kernel
theorem tyN_in {d : D} {n : String} (h : tyN d = some n) : n ∈ tyNames := by
  cases d <;> first | (cases h; done) | (cases h; decide)
/-- facts of the classes -/
structure KOk (G : Gh) : Prop where
  tyx : ∀ c, c < G.nc → ∀ (H : Hp) (a dx : Addr) (fs : List (Str × V)), H a = some (.ins (G.cls c) dx fs) → TyX G.K H (.ref a) (.ref (G.cls c))
  kb : ∀ c, c < G.nc → ∀ n ∈ tgNames, PySem.W.kitOne G.K (.ref (G.cls c)) (.type n) = some false
  bk : ∀ c, c < G.nc → ∀ n ∈ tyNames, PySem.W.kitOne G.K (.type n) (.ref (G.cls c)) = some false
  kk : ∀ c d, c < G.nc → d < G.nc → PySem.W.kitOne G.K (.ref (G.cls c)) (.ref (G.cls d)) = some (decide (c = d))
  cls : ∀ c, c < G.nc → Cls G.K (G.cls c)
  noat : ∀ c, c < G.nc → ∀ f ∈ G.fld c, NoAttr G.K (G.cls c) f
def Tg.ok (nc : Nat) : Tg → Bool
  | .bi n => tgNames.contains n
  | .own c => decide (c < nc)
def Tg.v (G : Gh) : Tg → Value
  | .bi n => .type n
  | .own c => .ref (G.cls c)
def Tg.vv (G : Gh) : Tg → V
  | .bi n => .ty n
  | .own c => .ref (G.cls c)
def kit1 (nc : Nat) (x : D) (t : Tg) : Option Bool := match tyN x with
  | some n => match t with
    | .bi m => some (subS n m)
    | .own _ => some false
  | none => match x with
    | .obj c _ => if c < nc then (match t with
      | .bi _ => some false
      | .own d => some (decide (c = d))) else none
    | _ => none
/-- the type, as the model sees it -/
def tyV (G : Gh) (x : D) : Value := match tyN x with
  | some n => .type n
  | none => match x with
    | .obj c _ => .ref (G.cls c)
    | _ => .none
theorem kit1_ok {G : Gh} (K : KOk G) {x : D} {t : Tg} {b : Bool} (e : kit1 G.nc x t = some b) (ht : t.ok G.nc = true) : PySem.W.kitOne G.K (tyV G x) (t.v G) = some b := by
  unfold kit1 at e
  unfold tyV
  cases q : tyN x with
  | some n =>
    rw [q] at e
    cases t with
    | bi m => cases e; exact kit_ty (kits n (tyN_in q) m (by simpa [Tg.ok] using ht))
    | own c => cases e; exact K.bk c (by simpa [Tg.ok] using ht) n (tyN_in q)
  | none =>
    rw [q] at e
    cases x <;> try (cases q; done)
    case obj c fs =>
      dsimp only at e ⊢
      split at e
      · rename_i hc
        cases t with
        | bi m => cases e; exact K.kb c hc m (by simpa [Tg.ok] using ht)
        | own d => cases e; exact K.kk c d hc (by simpa [Tg.ok] using ht)
      · cases e
    case ex => cases e
    case stt => cases e
theorem tyx_sqT {K : PySem.W.Frag} {H : Hp} {a : Addr} {xs : List V} (h : SqT K H a xs) : TyX K H (.ref a) (.type "tuple") := by
  rcases h with (h | ⟨o, h⟩) | ⟨o, its, n, h, hc, _⟩
  · exact .base (.tup h)
  · exact .fTuple h
  · exact .kTuple h hc
theorem tyx_sqL {K : PySem.W.Frag} {H : Hp} {a : Addr} {xs : List V} (h : SqL K H a xs) : TyX K H (.ref a) (.type "list") := by
  rcases h with (h | ⟨o, h⟩) | ⟨o, its, n, h, hc, _⟩
  · exact .base (.lst h)
  · exact .base (.frz h)
  · exact .kList h hc
theorem tyx_of {G : Gh} (K : KOk G) {F H : Hp} (le : Same F H) {x : D} {v : V} {t : Tg} {b : Bool} (e : kit1 G.nc x t = some b) (r : Rep G F x v) : TyX G.K H v (tyV G x) := by
  cases x with
  | non => cases r; exact .base .non
  | bl b => cases r; exact .base (.bl b)
  | int i => cases r; exact .base (.int i)
  | str z => cases r; exact .base (.str z)
  | lst xs => obtain ⟨a, vs, rfl, ha, _⟩ := r; exact .base (.lst (le _ _ ha))
  | tup xs => obtain ⟨a, vs, rfl, ha, _⟩ := r; exact tyx_sqT (same_sqT le ha)
  | dic ks xs => obtain ⟨a, vs, rfl, ha, _⟩ := r; exact .base (.dK (le _ _ ha))
  | dit ks xs => obtain ⟨a, vs, rfl, ha, _⟩ := r; exact .base (.dT (le _ _ ha))
  | scr ns => obtain ⟨a, rfl, ha⟩ := r; exact tyx_sqL (Same.seq le ha)
  | obj c fs =>
    obtain ⟨a, dx, vs, rfl, ha, _⟩ := r
    have hc : c < G.nc := by
      unfold kit1 at e
      dsimp only [tyN] at e
      split at e
      · assumption
      · cases e
    exact K.tyx c hc H a dx _ (le _ _ ha)
  | ex c fs => cases e
  | stt => cases e
def mIsi (nc : Nat) (t : Tg) (m : EM) : EM := fun ρ => bnd (m ρ) fun x => ofO ((kit1 nc x t).map D.bl)
def kitA (nc : Nat) (x : D) : List Tg → Option Bool
  | [] => some false
  | t :: ts => match kit1 nc x t with
    | some true => some true
    | some false => kitA nc x ts
    | none => none
def mIsiT (nc : Nat) (t : Tg) (ts : List Tg) (m : EM) : EM := fun ρ => bnd (m ρ) fun x => ofO ((kitA nc x (t :: ts)).map D.bl)
theorem callr_isi (c : Cok Γ X k) : CallR X (.builtin "isinstance") (rIsi Γ.G.K) := by rw [c.hK]; exact call_isi
theorem callr_isiT (c : Cok Γ X k) : CallR X (.builtin "isinstance") (rIsiT Γ.G.K) := by rw [c.hK]; exact call_isiT
theorem clsv_of {G : Gh} (t : Tg) : ClsV (t.vv G) (t.v G) := by
  cases t with
  | bi n => exact .ty n
  | own c => exact .own _
theorem de_isi {e te : Expr} {t : Tg} {m : EM} {p pos : Pos} (c : Cok Γ X k) (K : KOk Γ.G) (ht : t.ok Γ.G.nc = true) (hg : Gl X "isinstance") (hm : X.mg "isinstance" = none) (he : DE Γ X e m) (hte : PE X te (tC (t.vv Γ.G)))
    (hs : starEach [e, te] X.env = (false, eval e X.env) :: starEach [te] X.env := by rfl) (hs2 : starEach [te] X.env = (false, eval te X.env) :: starEach [] X.env := by rfl) (hpl : (backTo pos (starEach [te] X.env)).any (·.1) = false := by rfl) :
    DE Γ X (.Call (.Name "isinstance" p) [e, te] [] pos) (mIsi Γ.G.nc t m) := by
  refine pe_imp (pe_callB (callr_isi c) hg hm rfl (pa_cons he (pa_cons hte pa_nil hs2) hs) (by decide) (by decide) hs hpl) fun σ H Q ⟨ρ, S, F, ft, h⟩ => ⟨ρ, S, F, ft, (fit_bind (f := fun _ x => ofO ((kit1 Γ.G.nc x t).map D.bl)) ft h).imp fun x S1 F1 H1 g ⟨f1, _, p1⟩ v rv => ?_⟩
  cases q : kit1 Γ.G.nc x t with
  | none => rw [q] at p1; exact p1.elim
  | some b =>
    rw [q] at p1
    exact ⟨v, _, _, _, b, rfl, clsv_of t, tyx_of K f1.le q rv, kit1_ok K q ht, post_ret p1 f1.le f1.st rfl⟩
/-- a display of classes -/
inductive Clss (Γ : Gam) (X : Cx) : List Expr → List Tg → TA → Prop where
  | nil : Clss Γ X [] [] tNil
  | cons {e : Expr} {es : List Expr} {t : Tg} {ts : List Tg} {ta : TA} (h : PE X e (tC (t.vv Γ.G))) (r : Clss Γ X es ts ta) (hs : starEach (e :: es) X.env = (false, eval e X.env) :: starEach es X.env) : Clss Γ X (e :: es) (t :: ts) (tCons (tC (t.vv Γ.G)) ta)
theorem Clss.pa {es : List Expr} {ts : List Tg} {ta : TA} (h : Clss Γ X es ts ta) : PA X es ta := by
  induction h with
  | nil => exact pa_nil
  | cons h r hs ih => exact pa_cons h ih hs
theorem Clss.ta {es : List Expr} {ts : List Tg} {ta : TA} (h : Clss Γ X es ts ta) (σ : L2.St) (H : Hp) (Q : List V → Hp → Prop) (q : Q (ts.map (Tg.vv Γ.G)) H) : ta σ H Q := by
  induction h generalizing Q with
  | nil => exact q
  | cons h r hs ih => exact ih _ q
theorem clss_v {G : Gh} : ∀ ts : List Tg, Paired ClsV (ts.map (Tg.vv G)) (ts.map (Tg.v G))
  | [] => .nil
  | t :: ts => .cons (clsv_of t) (clss_v ts)
theorem kitA_ok {G : Gh} (K : KOk G) {x : D} : ∀ {ts : List Tg} {b : Bool}, kitA G.nc x ts = some b → (∀ t ∈ ts, t.ok G.nc = true) → PySem.W.kitAny G.K (tyV G x) (ts.map (Tg.v G)) = some b
  | [], _, e, _ => by cases e; rfl
  | t :: ts, b, e, h => by
    cases q : kit1 G.nc x t with
    | none => simp [kitA, q] at e
    | some c =>
      have h1 := kit1_ok K q (h t (List.Mem.head _))
      cases c with
      | true =>
        have e' : true = b := by simpa [kitA, q] using e
        subst e'
        exact kitAny_cons h1 (fun z => by cases z) fun _ => rfl
      | false =>
        have e' : kitA G.nc x ts = some b := by simpa [kitA, q] using e
        exact kitAny_cons h1 (fun _ => kitA_ok K e' fun t ht => h t (List.mem_cons_of_mem _ ht)) fun z => by cases z
theorem de_isiT {e : Expr} {es : List Expr} {t : Tg} {ts : List Tg} {ta : TA} {m : EM} {n : Nat} {p pos pt : Pos} (c : Cok Γ X k) (K : KOk Γ.G) (ht : ((t :: ts).all fun t => t.ok Γ.G.nc) = true) (hz : (t :: ts).length ≤ 1000) (hg : Gl X "isinstance") (hm : X.mg "isinstance" = none) (he : DE Γ X e m) (hte : Clss Γ X es (t :: ts) ta)
    (hs : starEach [e, .Tuple es n pt] X.env = (false, eval e X.env) :: starEach [.Tuple es n pt] X.env := by rfl) (hs2 : starEach [.Tuple es n pt] X.env = (false, eval (.Tuple es n pt) X.env) :: starEach [] X.env := by rfl) (hpl : (backTo pos (starEach [.Tuple es n pt] X.env)).any (·.1) = false := by rfl) :
    DE Γ X (.Call (.Name "isinstance" p) [e, .Tuple es n pt] [] pos) (mIsiT Γ.G.nc t ts m) := by
  refine pe_imp (pe_callB (callr_isiT c) hg hm rfl (pa_cons he (pa_cons (pe_tup hte.pa) pa_nil hs2) hs) (by decide) (by decide) hs hpl) fun σ H Q ⟨ρ, S, F, ft, h⟩ => ⟨ρ, S, F, ft, (fit_bind (f := fun _ x => ofO ((kitA Γ.G.nc x (t :: ts)).map D.bl)) ft h).imp fun x S1 F1 H1 g ⟨f1, _, p1⟩ v rv => ?_⟩
  refine hte.ta σ H1 _ ⟨by rw [List.length_map, sizeLine_eq]; omega, fun q nq => ?_⟩
  cases qq : kitA Γ.G.nc x (t :: ts) with
  | none => rw [qq] at p1; exact p1.elim
  | some b =>
    rw [qq] at p1
    have g2 := Go.allocH (o := .tup ((t :: ts).map (Tg.vv Γ.G))) f1.le f1.st nq
    have f2 := f1.step g2
    have hk : ∃ b', kit1 Γ.G.nc x t = some b' := by
      unfold kitA at qq
      cases z : kit1 Γ.G.nc x t with
      | none => rw [z] at qq; cases qq
      | some b' => exact ⟨b', rfl⟩
    obtain ⟨b', hk⟩ := hk
    exact ⟨v, q, _, _, _, b, rfl, upd_same, clss_v _, tyx_of K f2.le hk (rv.mono g2.ext), kitA_ok K qq fun t h => List.all_eq_true.mp ht t h, post_ret (p1.go g2) f2.le f2.st rfl⟩

/-! ### x[i] -/
def dIx : D → D → Option D
  | .lst xs, .int i => atI xs i
  | .tup xs, .int i => atI xs i
  | .scr ns, .int i => (atI ns i).map D.int
  | .str z, .int i => if z.length ≤ sizeLine then (atI z.cps.toList i).map fun c => .str ⟨#[c]⟩ else none
  | _, _ => none
theorem RepL.atI {G : Gh} {F : Hp} {ds : List D} {vs : List V} (r : RepL G F ds vs) {i : Int} {d : D} (e : L2.atI ds i = some d) : ∃ v, L2.atI vs i = some v ∧ Rep G F d v := by
  unfold L2.atI at e ⊢
  rw [← r.length]
  cases q : ixN ds.length i with
  | none => rw [q] at e; cases e
  | some j =>
    rw [q] at e
    exact r.get e
theorem opd_ix {G : Gh} : OpD G (rIx G.K) dIx := by
  intro x y z v w F H S Q e le st rx ry k
  unfold dIx at e
  split at e
  · cases ry
    obtain ⟨a, vs, rfl, ha, r⟩ := rx
    obtain ⟨u, e1, r1⟩ := r.atI e
    exact .inl ⟨a, vs, _, u, rfl, rfl, .inl (.inl (le _ _ ha)), e1, k _ F H (Go.refl le st) r1⟩
  · cases ry
    obtain ⟨a, vs, rfl, ha, r⟩ := rx
    obtain ⟨u, e1, r1⟩ := r.atI e
    exact .inr (.inl ⟨a, vs, _, u, rfl, rfl, same_sqT le ha, e1, k _ F H (Go.refl le st) r1⟩)
  · rename_i ns i
    cases ry
    obtain ⟨a, rfl, ha⟩ := rx
    cases q : atI ns i with
    | none => rw [q] at e; cases e
    | some n =>
      rw [q] at e
      cases e
      refine .inl ⟨a, _, _, .int n, rfl, rfl, Same.seq le ha, ?_, k _ F H (Go.refl le st) rfl⟩
      unfold atI at q ⊢
      rw [List.length_map]
      cases qi : ixN ns.length i with
      | none => rw [qi] at q; cases q
      | some j =>
        rw [qi] at q
        have q' : ns[j]? = some n := q
        show (ns.map V.int)[j]? = _
        rw [List.getElem?_map, q']
        rfl
  · cases ry
    cases rx
    split at e
    · rename_i z0 i h
      cases q : atI z0.cps.toList i with
      | none => rw [q] at e; cases e
      | some n =>
        rw [q] at e
        cases e
        exact .inr (.inr ⟨_, _, n, rfl, rfl, h, q, k _ F H (Go.refl le st) rfl⟩)
    · cases e
  · cases e
theorem de_ix {a b : Expr} {ma mb : EM} {pos : Pos} (c : Cok Γ X k) (ha : DE Γ X a ma) (hb : DE Γ X b mb) (hs : PlainIx b := by intro _ _; rfl) : DE Γ X (.Subscript a b pos) (m2 dIx ma mb) := by
  have hr : IxR X (rIx Γ.G.K) := by rw [c.hK]; exact ix_seq
  exact pe_imp (pe_ix hr ha hb hs) fun _ _ _ => td_op opd_ix
/-! ### xs[::-1] -/
def dRev : D → Option D
  | .lst xs => some (.lst xs.reverse)
  | _ => none
def m1 (f : D → Option D) (m : EM) : EM := fun ρ => bnd (m ρ) fun x => ofO (f x)
theorem de_rev {e : Expr} {m : EM} {j : Nat} {p1 p2 p3 pos : Pos} (c : Cok Γ X k) (he : DE Γ X e m) : DE Γ X (.Subscript e (.Slice none none (some (.UnaryOp .USub (.Constant (.int 1) j p1) p2)) p3) pos) (m1 dRev m) := by
  refine pe_imp (pe_revL he) fun σ H Q ⟨ρ, S, F, ft, h⟩ => ⟨ρ, S, F, ft, (fit_bind (f := fun _ x => ofO (dRev x)) ft h).imp fun x S1 F1 H1 g ⟨f1, _, p1⟩ v rv => ?_⟩
  cases x <;> try exact p1.elim
  obtain ⟨a, vs, rfl, ha, r⟩ := rv
  refine ⟨a, vs, rfl, .inl (.inl (f1.le _ _ ha)), fun q nq => ?_⟩
  have g := Go.alloc (o := .lst vs.reverse) f1.le f1.st nq
  exact p1 _ _ g _ ⟨q, _, rfl, upd_same, r.reverse.mono g.ext⟩
end
end Dv

/-! Dv4: statements; own lists; freezing. -/
namespace Dv
open PySem PySem.Spec L2

/-! ### freezing: the own objects of a frame as data -/
def Sl.thaw : Sl → Sl
  | .own xs => .dat (.lst xs)
  | .owd ks xs => .dat (.dic ks xs)
  | .owt ks xs => .dat (.dit ks xs)
  | .ini _ _ => .un
  | s => s
def thaw (ρ : Rho) : Rho := ρ.map Sl.thaw
/-- the written part grown by the heap's objects at the addresses of A -/
def grow (F H : Hp) (A : Addr → Prop) [DecidablePred A] : Hp := fun a => if A a then H a else F a
section
variable {Γ : Gam} {X : Cx} {k : Nat}
open Classical in
theorem Fit.thaw {ρ : Rho} {S : DS} {F H : Hp} {σ : L2.St} (f : Fit Γ ρ S F σ H) : ∃ F', Fit Γ (Dv.thaw ρ) S F' σ H ∧ Same F F' ∧ (∀ a o, F' a = some o → F a = some o ∨ (F a = none ∧ Γ.H0 a = none ∧ H a = some o ∧ (Γ.G.hs = true → a ≠ Γ.G.pd ∧ a ≠ Γ.G.pg ∧ a ≠ Γ.G.pc) ∧ ∃ i : Nat, ∃ s : Sl, ρ[i]? = some s ∧ s.mine = true ∧ σ[i]? = some (some (.ref a)))) := by
  obtain ⟨ow, sl⟩ := f.sl
  let A : Addr → Prop := fun a => ∃ i : Nat, ∃ s : Sl, ρ[i]? = some s ∧ s.mine = true ∧ ow i = a
  have mine : ∀ a, A a → Mine Γ F a ∧ (∃ o, H a = some o) ∧ ∃ i : Nat, ∃ s : Sl, ρ[i]? = some s ∧ s.mine = true ∧ σ[i]? = some (some (.ref a)) := fun a ⟨i, s, e, m, ea⟩ => by
    obtain ⟨o, e1, r⟩ := sl.at_ i s e
    subst ea
    cases s with
    | un => cases m
    | dat d => cases m
    | own xs => exact ⟨r.2.1, ⟨_, r.2.2.choose_spec.1⟩, i, _, e, rfl, by rw [e1, r.1]⟩
    | owd ks xs => exact ⟨r.2.1, ⟨_, r.2.2.choose_spec.1⟩, i, _, e, rfl, by rw [e1, r.1]⟩
    | owt ks xs => exact ⟨r.2.1, ⟨_, r.2.2.choose_spec.1⟩, i, _, e, rfl, by rw [e1, r.1]⟩
    | ini c fs => exact ⟨r.2.1, ⟨_, r.2.2.choose_spec.1.choose_spec⟩, i, _, e, rfl, by rw [e1, r.1]⟩
  have sm : Same F (grow F H A) := fun a o e => by
    unfold grow
    by_cases h : A a
    · rw [(mine a h).1.f] at e; cases e
    · rw [if_neg h]; exact e
  have inA : ∀ {a : Addr}, A a → grow F H A a = H a := fun h => if_pos h
  refine ⟨grow F H A, ⟨⟨fun a o e => ?_, fun hs => ?_, f.go.ext.trans sm, f.go.keep, fun a o e => ?_, f.go.grow⟩, by simp [Dv.thaw, f.len], ow, ⟨fun i s e => ?_, fun i j s t e1 e2 m1 m2 => ?_⟩⟩, sm, fun a o e => ?_⟩
  · unfold grow at e
    split at e
    · exact e
    · exact f.le a o e
  · have st := f.st hs
    refine ⟨st.hd, st.hg, st.hc, ?_, ?_, ?_, st.ne⟩
    · unfold grow
      split
      · rename_i h; exact absurd rfl ((mine _ h).1.st hs).1
      · exact st.fd
    · unfold grow
      split
      · rename_i h; exact absurd rfl ((mine _ h).1.st hs).2.1
      · exact st.fg
    · unfold grow
      split
      · rename_i h; exact absurd rfl ((mine _ h).1.st hs).2.2
      · exact st.fc
  · unfold grow at e
    split at e
    · rename_i h; exact .inr (mine _ h).1.h0
    · exact f.go.new a o e
  · unfold Dv.thaw at e
    rw [List.getElem?_map] at e
    cases q : ρ[i]? with
    | none => rw [q] at e; cases e
    | some t =>
      rw [q] at e
      cases e
      obtain ⟨o, e1, r⟩ := sl.at_ i t q
      refine ⟨o, e1, ?_⟩
      cases t with
      | un => trivial
      | dat d => obtain ⟨v, e2, r2⟩ := r; exact ⟨v, e2, r2.mono sm⟩
      | own xs =>
        obtain ⟨e2, m, vs, hp, r2⟩ := r
        exact ⟨_, e2, _, vs, rfl, (inA ⟨i, _, q, rfl, rfl⟩).trans hp, r2.mono sm⟩
      | owd ks xs =>
        obtain ⟨e2, m, vs, hp, l, r2⟩ := r
        exact ⟨_, e2, _, vs, rfl, (inA ⟨i, _, q, rfl, rfl⟩).trans hp, l, r2.mono sm⟩
      | owt ks xs =>
        obtain ⟨e2, m, vs, hp, l, r2⟩ := r
        exact ⟨_, e2, _, vs, rfl, (inA ⟨i, _, q, rfl, rfl⟩).trans hp, l, r2.mono sm⟩
      | ini c fs => trivial
  · have no : ∀ {i : Nat} {s : Sl}, (Dv.thaw ρ)[i]? = some s → s.mine = false := fun {i s} e => by
      unfold Dv.thaw at e
      rw [List.getElem?_map] at e
      cases q : ρ[i]? with
      | none => rw [q] at e; cases e
      | some t =>
        rw [q] at e
        cases e
        cases t <;> rfl
    rw [no e1] at m1; cases m1
  · unfold grow at e
    split at e
    · rename_i h
      obtain ⟨m, _, h2⟩ := mine _ h
      exact .inr ⟨m.f, m.h0, e, m.st, h2⟩
    · exact .inl e

/-! ### an expression whose answer is flat, over the frame as data for this once -/
def nofl : D → Bool
  | .ex _ fs => fs.all flatD
  | _ => false
def mF (m : EM) : EM := fun ρ S => match m (thaw ρ) S with
  | (.ok d, S') => if flatD d = true then (.ok d, S') else (.bad, S')
  | (.exc x, S') => if nofl x = true then (.exc x, S') else (.bad, S')
  | (.bad, S') => (.bad, S')
def mFT (m : Rho → M Bool) : Rho → M Bool := fun ρ S => match m (thaw ρ) S with
  | (.ok d, S') => (.ok d, S')
  | (.exc x, S') => if nofl x = true then (.exc x, S') else (.bad, S')
  | (.bad, S') => (.bad, S')
theorem flat_any {G : Gh} {F F' : Hp} {d : D} {v : V} (f : flatD d = true) (r : Rep G F d v) : Rep G F' d v := by
  cases d <;> first | (cases f; done) | exact r
theorem flats_any {G : Gh} {F F' : Hp} : ∀ {ds : List D} {vs : List V}, ds.all flatD = true → RepL G F ds vs → RepL G F' ds vs
  | [], _, _, r => r
  | d :: ds, _, f, ⟨v, ws, h1, h2, h3⟩ => by
    rw [List.all_cons, Bool.and_eq_true] at f
    exact ⟨v, ws, h1, flat_any f.1 h2, flats_any f.2 h3⟩
theorem ex_any {G : Gh} {F F' H : Hp} {x : D} {cls : Value} {dd : Option Addr} (n : nofl x = true) (h : ∀ a, F a = none → F' a = none) (r : ExR G F H x cls dd) : ExR G F' H x cls dd := by
  cases x <;> first | (cases n; done) | skip
  obtain ⟨h1, h2⟩ := r
  refine ⟨h1, h2.imp id fun ⟨d, vs, h3, h4, h5, h6, h7⟩ => ⟨d, vs, h3, h4, h _ h5, h6, flats_any n h7⟩⟩
/-- the written part without what was frozen for once -/
def less (F1 F F' : Hp) : Hp := fun a => match F a with
  | some o => some o
  | none => match F' a with
    | some _ => none
    | none => F1 a
/-- F' is F with own objects; F1 what came of F' -/
theorem less_go {F F' F1 H H1 : Hp} {S1 : DS} {ρ : Rho} {S : DS} {σ : L2.St} (ft : Fit Γ ρ S F σ H) (sm : Same F F') (g : Go Γ.G F' H S1 F1 H1) : Go Γ.G F H S1 (less F1 F F') H1 ∧ ∀ a, F1 a = none → less F1 F F' a = none := by
  have l1 : ∀ a o, less F1 F F' a = some o → F1 a = some o := fun a o e => by
    unfold less at e
    split at e
    · rename_i q; cases e; exact g.ext _ _ (sm _ _ q)
    · split at e
      · cases e
      · exact e
  have l2 : ∀ a, F1 a = none → less F1 F F' a = none := fun a e => by
    cases q : less F1 F F' a with
    | none => rfl
    | some o => rw [l1 a o q] at e; cases e
  refine ⟨⟨fun a o e => g.le a o (l1 a o e), fun hs => ?_, fun a o e => ?_, g.keep, fun a o e => ?_, g.grow⟩, l2⟩
  · have st := g.st hs
    refine ⟨st.hd, st.hg, st.hc, l2 _ st.fd, l2 _ st.fg, ?_, st.ne⟩
    have q := (ft.st hs).fc
    have q1 := g.ext _ _ (sm _ _ q)
    rw [st.fc] at q1
    unfold less
    rw [q]
    exact q1.symm
  · unfold less
    rw [e]
  · have e1 := l1 a o e
    rcases g.new a o e1 with h | h
    · unfold less at e
      split at e
      · rename_i q; cases e; exact .inl q
      · rw [h] at e; cases e
    · exact .inr h
theorem post_frz {m : EM} {ρ : Rho} {S : DS} {F H : Hp} {σ : L2.St} {Q : VK} (ft : Fit Γ ρ S F σ H) (p : Post Γ.G Γ.E F H (mF m ρ S) Q) : ∃ F', Fit Γ (thaw ρ) S F' σ H ∧ Post Γ.G Γ.E F' H (m (thaw ρ) S) Q := by
  obtain ⟨F', f', sm, new⟩ := ft.thaw
  refine ⟨F', f', ?_⟩
  unfold mF at p
  generalize m (thaw ρ) S = r at p ⊢
  obtain ⟨r, S1⟩ := r
  cases r with
  | ok d =>
    dsimp only at p
    split at p
    · rename_i h
      intro F1 H1 g v rv
      exact p _ _ (less_go ft sm g).1 v (flat_any h rv)
    · exact p.elim
  | exc x =>
    dsimp only at p
    split at p
    · rename_i h
      intro cls dd F1 H1 g rx
      obtain ⟨g2, l2⟩ := less_go ft sm g
      exact p cls dd _ _ g2 (ex_any h l2 rx)
    · exact p.elim
  | bad => exact p
theorem de_frz {e : Expr} {m : EM} (h : DE Γ X e m) : DE Γ X e (mF m) :=
  pe_imp h fun σ H Q ⟨ρ, S, F, ft, p⟩ => let ⟨F', f', p'⟩ := post_frz ft p; ⟨_, S, F', f', p'⟩
theorem dt_frz {e : Expr} {m : Rho → M Bool} (h : DT Γ X e m) : DT Γ X e (mFT m) := by
  refine pt_imp h fun σ H Q ⟨ρ, S, F, ft, p⟩ => ?_
  obtain ⟨F', f', sm, new⟩ := ft.thaw
  refine ⟨_, S, F', f', ?_⟩
  unfold mFT at p
  generalize m (thaw ρ) S = r at p ⊢
  obtain ⟨r, S1⟩ := r
  cases r with
  | ok d => exact fun F1 H1 g => p _ _ (less_go ft sm g).1
  | exc x =>
    dsimp only at p
    split at p
    · rename_i h
      intro cls dd F1 H1 g rx
      obtain ⟨g2, l2⟩ := less_go ft sm g
      exact p cls dd _ _ g2 (ex_any h l2 rx)
    · exact p.elim
  | bad => exact p

/-! ### statements -/
inductive Fl where
  | nx (ρ : Rho) | rt (d : D) | bk (ρ : Rho) | ct (ρ : Rho)
abbrev SM := Rho → M Fl
def PostS (Γ : Gam) (F : Hp) (Dn : Ends) (r : Rs Fl × DS) : Prop := match r with
  | (.ok (.nx ρ), S) => ∀ F' σ H, Same F F' → Fit Γ ρ S F' σ H → Dn.nx σ H
  | (.ok (.rt d), S) => ∀ F' H v, Go Γ.G Γ.F0 Γ.H0 S F' H → Rep Γ.G F' d v → Dn.rt v H
  | (.ok (.bk ρ), S) => ∀ F' σ H, Same F F' → Fit Γ ρ S F' σ H → Dn.bk σ H
  | (.ok (.ct ρ), S) => ∀ F' σ H, Same F F' → Fit Γ ρ S F' σ H → Dn.ct σ H
  | (.exc x, S) => ∀ cls dd F' H, Go Γ.G Γ.F0 Γ.H0 S F' H → ExR Γ.G F' H x cls dd → Γ.E cls dd H
  | (.bad, _) => False
def tDS (Γ : Gam) (m : SM) : TS := fun Dn σ H => ∃ ρ S F, Fit Γ ρ S F σ H ∧ PostS Γ F Dn (m ρ S)
abbrev DSt (Γ : Gam) (X : Cx) (st : Stmt) (m : SM) : Prop := PS X st (tDS Γ m)
abbrev DSs (Γ : Gam) (X : Cx) (st : List Stmt) (m : SM) : Prop := PSs X st (tDS Γ m)
theorem ps_imp {st : Stmt} {t t' : TS} (h : PS X st t) (k : ∀ Dn σ H, t' Dn σ H → t Dn σ H) : PS X st t' := ⟨fun pins s σ H Dn I hw => h.run pins s σ H Dn I (k Dn σ H hw)⟩
theorem pss_imp {st : List Stmt} {t t' : TS} (h : PSs X st t) (k : ∀ Dn σ H, t' Dn σ H → t Dn σ H) : PSs X st t' := ⟨fun pins s σ H Dn I hw => h.run pins s σ H Dn I (k Dn σ H hw)⟩
theorem PostS.mono {F F' : Hp} {Dn : Ends} {r : Rs Fl × DS} (h : PostS Γ F Dn r) (e : Same F F') : PostS Γ F' Dn r := by
  obtain ⟨r, S⟩ := r
  cases r with
  | ok f =>
    cases f with
    | nx ρ => exact fun F1 σ H e1 => h F1 σ H (e.trans e1)
    | rt d => exact h
    | bk ρ => exact fun F1 σ H e1 => h F1 σ H (e.trans e1)
    | ct ρ => exact fun F1 σ H e1 => h F1 σ H (e.trans e1)
  | exc x => exact h
  | bad => exact h
/-- first an expression -/
theorem st_bind {α : Type} {me : Rho → M α} {f : Rho → α → M Fl} {ρ : Rho} {S : DS} {F H : Hp} {σ : L2.St} {Dn : Ends} (ft : Fit Γ ρ S F σ H) (p : PostS Γ F Dn (bnd (me ρ) (f ρ) S)) :
    PostK Γ.G Γ.E F H (me ρ S) fun a S1 F1 H1 => Fit Γ ρ S1 F1 σ H1 ∧ Same F F1 ∧ PostS Γ F1 Dn (f ρ a S1) := by
  unfold bnd at p
  generalize me ρ S = r at p ⊢
  obtain ⟨r, S1⟩ := r
  cases r with
  | ok a => exact fun F1 H1 g => ⟨ft.step g, g.ext, PostS.mono p g.ext⟩
  | exc x => exact fun cls dd F1 H1 g rx => p cls dd F1 H1 (ft.go.trans g) rx
  | bad => exact p
def sNext : SM := fun ρ => ret (.nx ρ)
def sSeq (a b : SM) : SM := fun ρ => bnd (a ρ) fun f => match f with
  | .nx ρ' => b ρ'
  | f => ret f
theorem seq_post {a b : SM} {ρ : Rho} {S : DS} {F : Hp} {Dn : Ends} (p : PostS Γ F Dn (sSeq a b ρ S)) : PostS Γ F { Dn with nx := tDS Γ b Dn } (a ρ S) := by
  unfold sSeq bnd at p
  generalize a ρ S = r at p ⊢
  obtain ⟨r, S1⟩ := r
  cases r with
  | ok f =>
    cases f with
    | nx ρ' => exact fun F1 σ H e ft => ⟨ρ', S1, F1, ft, PostS.mono p e⟩
    | rt d => exact p
    | bk ρ' => exact p
    | ct ρ' => exact p
  | exc x => exact p
  | bad => exact p
theorem dss_nil : DSs Γ X [] sNext := pss_imp pss_nil fun Dn σ H ⟨ρ, S, F, ft, p⟩ => p F σ H (Same.refl F) ft
theorem dss_cons {st : Stmt} {rest : List Stmt} {a b : SM} (h : DSt Γ X st a) (hs : DSs Γ X rest b) : DSs Γ X (st :: rest) (sSeq a b) :=
  pss_imp (pss_cons h hs) fun Dn σ H ⟨ρ, S, F, ft, p⟩ => ⟨ρ, S, F, ft, seq_post p⟩
theorem dss_one {st : Stmt} {a : SM} (h : DSt Γ X st a) : DSs Γ X [st] a := pss_one h
theorem ds_pass {pos : Pos} : DSt Γ X (.Pass pos) sNext := ps_imp ps_pass fun Dn σ H ⟨ρ, S, F, ft, p⟩ => p F σ H (Same.refl F) ft
def sBrk : SM := fun ρ => ret (.bk ρ)
def sCnt : SM := fun ρ => ret (.ct ρ)
theorem ds_break {pos : Pos} : DSt Γ X (.Break pos) sBrk := ps_imp ps_break fun Dn σ H ⟨ρ, S, F, ft, p⟩ => p F σ H (Same.refl F) ft
theorem ds_continue {pos : Pos} : DSt Γ X (.Continue pos) sCnt := ps_imp ps_continue fun Dn σ H ⟨ρ, S, F, ft, p⟩ => p F σ H (Same.refl F) ft
/-- a statement that is not reached -/
def sBad : SM := fun _ => bad
theorem ds_bad {st : Stmt} : DSt Γ X st sBad := ps_imp ps_never fun Dn σ H ⟨ρ, S, F, ft, p⟩ => p
theorem dss_bad {st : List Stmt} : DSs Γ X st sBad := pss_imp pss_never fun Dn σ H ⟨ρ, S, F, ft, p⟩ => p
def sRet (m : EM) : SM := fun ρ => bnd (m (thaw ρ)) fun d => ret (.rt d)
theorem ds_ret {e : Expr} {m : EM} {pos : Pos} (h : DE Γ X e m) : DSt Γ X (.Return (some e) pos) (sRet m) := by
  refine ps_imp (ps_ret h) fun Dn σ H ⟨ρ, S, F, ft, p⟩ => ?_
  obtain ⟨F', f', sm, _⟩ := ft.thaw
  refine ⟨_, S, F', f', (st_bind (f := fun _ d => ret (.rt d)) f' (PostS.mono p sm)).imp fun d S1 F1 H1 g ⟨f1, _, p1⟩ v rv => p1 F1 H1 v f1.go rv⟩
theorem ds_retN {pos : Pos} : DSt Γ X (.Return none pos) (fun _ => ret (.rt .non)) := ps_imp ps_retN fun Dn σ H ⟨ρ, S, F, ft, p⟩ => p F H .non ft.go rfl
def sIf (c : Rho → M Bool) (a b : SM) : SM := mIte c a b
theorem ds_if {c : Expr} {a b : List Stmt} {mc : Rho → M Bool} {ma mb : SM} {pos : Pos} (hc : DT Γ X c mc) (ha : DSs Γ X a ma) (hb : DSs Γ X b mb) : DSt Γ X (.If c a b pos) (sIf mc ma mb) := by
  refine ps_imp (ps_if hc ha hb) fun Dn σ H ⟨ρ, S, F, ft, p⟩ => ⟨ρ, S, F, ft, (st_bind (f := fun ρ t => if t = true then ma ρ else mb ρ) ft p).imp fun c S1 F1 H1 g ⟨f1, _, p1⟩ => ?_⟩
  cases c with
  | true => exact ⟨ρ, S1, F1, f1, p1⟩
  | false => exact ⟨ρ, S1, F1, f1, p1⟩
def sExpr (m : EM) : SM := fun ρ => bnd (m ρ) fun _ => ret (.nx ρ)
theorem ds_expr {e : Expr} {m : EM} {pos : Pos} (h : DE Γ X e m) (hs : swapsWith e none pos.line X.env = pure false := by rfl) : DSt Γ X (.Expr e pos) (sExpr m) :=
  ps_imp (ps_expr h hs) fun Dn σ H ⟨ρ, S, F, ft, p⟩ => ⟨ρ, S, F, ft, (st_bind (f := fun ρ _ => ret (.nx ρ)) ft p).imp fun d S1 F1 H1 g ⟨f1, _, p1⟩ v rv => p1 F1 σ H1 (Same.refl F1) f1⟩
theorem ds_doc {x : Str} {j : Nat} {p p' : Pos} : DSt Γ X (.Expr (.Constant (.str x) j p) p') sNext := ps_imp ps_doc fun Dn σ H ⟨ρ, S, F, ft, p⟩ => p F σ H (Same.refl F) ft
def sSet (i : Nat) (m : EM) : SM := fun ρ => bnd (m ρ) fun d => ret (.nx (ρ.set i (.dat d)))
theorem ds_set {i : Nat} {x : Str} {e : Expr} {m : EM} {pos pos' : Pos} (c : Cok Γ X k) (h : DE Γ X e m) (hi : X.N[i]? = some x := by rfl) (hx : Loc X.env.scope x := by first | exact .inl rfl | exact .inr rfl)
    (hs : swapsWith e (some (.Name x pos')) pos.line X.env = pure false := by rfl) (hf : X.fn x = true ∨ X.env.scope.names.lookup x = some .local := by first | exact .inl rfl | exact .inr rfl) : DSt Γ X (.Assign [.Name x pos'] e pos) (sSet i m) :=
  ps_imp (ps_set c.nd hi hx h hs hf) fun Dn σ H ⟨ρ, S, F, ft, p⟩ => ⟨ρ, S, F, ft, (st_bind (f := fun ρ d => ret (.nx (ρ.set i (.dat d)))) ft p).imp fun d S1 F1 H1 g ⟨f1, _, p1⟩ v rv => p1 F1 _ H1 (Same.refl F1) (f1.put rv)⟩

/-! ### own objects that are made -/
def NewS (Γ : Gam) (Hb F H : Hp) (s : Sl) (v : V) : Prop := ∃ p, SlR Γ F H p s (some v) ∧ (s.mine = true → v = .ref p ∧ Hb p = none)
abbrev ZM := Rho → M Sl
def tDZ (Γ : Gam) (m : ZM) : TE := fun σ H Q => ∃ ρ S F, Fit Γ ρ S F σ H ∧ PostK Γ.G Γ.E F H (m ρ S) fun s _ F' H' => ∀ v, NewS Γ H F' H' s v → Q v H'
abbrev DZ (Γ : Gam) (X : Cx) (e : Expr) (m : ZM) : Prop := PE X e (tDZ Γ m)
def zD (m : EM) : ZM := fun ρ => bnd (m ρ) fun d => ret (.dat d)
theorem dz_de {e : Expr} {m : EM} (h : DE Γ X e m) : DZ Γ X e (zD m) :=
  pe_imp h fun σ H Q ⟨ρ, S, F, ft, p⟩ => ⟨ρ, S, F, ft, (PostK.bind p).imp fun d S1 F1 H1 g p1 v rv => p1 F1 H1 (ft.step g).refl v ⟨0, ⟨v, rfl, rv⟩, fun z => by cases z⟩⟩
theorem Fit.slot {ρ : Rho} {S : DS} {F H : Hp} {σ : L2.St} (f : Fit Γ ρ S F σ H) {j : Nat} {s : Sl} (e : ρ[j]? = some s) (m : s.mine = true) : ∃ a o, σ[j]? = some (some (.ref a)) ∧ H a = some o ∧ SlR Γ F H a s (some (.ref a)) := by
  obtain ⟨ow, sl⟩ := f.sl
  obtain ⟨o, e1, r⟩ := sl.at_ j s e
  cases s with
  | un => cases m
  | dat d => cases m
  | own xs =>
    have e2 := r.1
    subst e2
    exact ⟨ow j, _, e1, r.2.2.choose_spec.1, r⟩
  | owd ks xs =>
    have e2 := r.1
    subst e2
    exact ⟨ow j, _, e1, r.2.2.choose_spec.1, r⟩
  | owt ks xs =>
    have e2 := r.1
    subst e2
    exact ⟨ow j, _, e1, r.2.2.choose_spec.1, r⟩
  | ini c fs =>
    have e2 := r.1
    subst e2
    exact ⟨ow j, _, e1, r.2.2.choose_spec.1.choose_spec, r⟩
/-- what was made goes into a slot -/
theorem Fit.putS {ρ : Rho} {S S0 : DS} {F H F0 Hb : Hp} {σ : L2.St} {i : Nat} {s : Sl} {v : V} (f0 : Fit Γ ρ S0 F0 σ Hb) (f : Fit Γ ρ S F σ H) (h : NewS Γ Hb F H s v) : Fit Γ (ρ.set i s) S F (σ.set i (some v)) H := by
  obtain ⟨p, r, hm⟩ := h
  cases s with
  | un => exact f.unset
  | dat d => obtain ⟨w, e, rw⟩ := r; cases e; exact f.put rw
  | own xs =>
    obtain ⟨rfl, np⟩ := hm rfl
    refine f.putOwn r fun j t e m q => ?_
    obtain ⟨a, o, e1, e2, _⟩ := f0.slot e m
    rw [e1] at q
    cases q
    rw [np] at e2
    cases e2
  | owd ks xs =>
    obtain ⟨rfl, np⟩ := hm rfl
    refine f.putOwn r fun j t e m q => ?_
    obtain ⟨a, o, e1, e2, _⟩ := f0.slot e m
    rw [e1] at q
    cases q
    rw [np] at e2
    cases e2
  | owt ks xs =>
    obtain ⟨rfl, np⟩ := hm rfl
    refine f.putOwn r fun j t e m q => ?_
    obtain ⟨a, o, e1, e2, _⟩ := f0.slot e m
    rw [e1] at q
    cases q
    rw [np] at e2
    cases e2
  | ini c fs =>
    obtain ⟨rfl, np⟩ := hm rfl
    refine f.putOwn r fun j t e m q => ?_
    obtain ⟨a, o, e1, e2, _⟩ := f0.slot e m
    rw [e1] at q
    cases q
    rw [np] at e2
    cases e2
def sSetZ (i : Nat) (m : ZM) : SM := fun ρ => bnd (m ρ) fun s => ret (.nx (ρ.set i s))
theorem ds_setZ {i : Nat} {x : Str} {e : Expr} {m : ZM} {pos pos' : Pos} (c : Cok Γ X k) (h : DZ Γ X e m) (hi : X.N[i]? = some x := by rfl) (hx : Loc X.env.scope x := by first | exact .inl rfl | exact .inr rfl)
    (hs : swapsWith e (some (.Name x pos')) pos.line X.env = pure false := by rfl) (hf : X.fn x = true ∨ X.env.scope.names.lookup x = some .local := by first | exact .inl rfl | exact .inr rfl) : DSt Γ X (.Assign [.Name x pos'] e pos) (sSetZ i m) :=
  ps_imp (ps_set c.nd hi hx h hs hf) fun Dn σ H ⟨ρ, S, F, ft, p⟩ => ⟨ρ, S, F, ft, (st_bind (f := fun ρ d => ret (.nx (ρ.set i d))) ft p).imp fun d S1 F1 H1 g ⟨f1, _, p1⟩ v rv => p1 F1 _ H1 (Same.refl F1) (ft.putS f1 rv)⟩
/-- a, b = x, y -/
def sPar (i j : Nat) (m n : ZM) : SM := fun ρ => bnd (m ρ) fun s => bnd (n ρ) fun t => ret (.nx ((ρ.set i s).set j t))
theorem NewS.go {Hb F H F' H' : Hp} {S : DS} {s : Sl} {v : V} (g : Go Γ.G F H S F' H') (h : NewS Γ Hb F H s v) : NewS Γ Hb F' H' s v := by
  obtain ⟨p, r, hm⟩ := h
  exact ⟨p, r.go g, hm⟩
theorem NewS.val {Hb F H : Hp} {s : Sl} {v : V} (h : NewS Γ Hb F H s v) (m : s.mine = true) : ∃ p o, v = .ref p ∧ H p = some o ∧ Hb p = none := by
  obtain ⟨p, r, hm⟩ := h
  obtain ⟨rfl, np⟩ := hm m
  cases s with
  | un => cases m
  | dat d => cases m
  | own xs => exact ⟨p, _, rfl, r.2.2.choose_spec.1, np⟩
  | owd ks xs => exact ⟨p, _, rfl, r.2.2.choose_spec.1, np⟩
  | owt ks xs => exact ⟨p, _, rfl, r.2.2.choose_spec.1, np⟩
  | ini c fs => exact ⟨p, _, rfl, r.2.2.choose_spec.1.choose_spec, np⟩
theorem Fit.putS2 {ρ : Rho} {S S0 S1 : DS} {F H F0 Hb F1 Hm : Hp} {σ : L2.St} {i j : Nat} {s t : Sl} {v w : V} (f0 : Fit Γ ρ S0 F0 σ Hb) (f1 : Fit Γ ρ S1 F1 σ Hm) (f : Fit Γ ρ S F σ H) (h1 : NewS Γ Hb F1 Hm s v) (h : NewS Γ Hb F H s v) (h2 : NewS Γ Hm F H t w) (hij : i ≠ j) :
    Fit Γ ((ρ.set i s).set j t) S F ((σ.set i (some v)).set j (some w)) H := by
  have f2 := f0.putS (i := i) f h
  obtain ⟨p, r, hm⟩ := h2
  have gen : t.mine = true → Fit Γ ((ρ.set i s).set j t) S F ((σ.set i (some v)).set j (some w)) H := fun m => by
    obtain ⟨rfl, np⟩ := hm m
    refine f2.putOwn r fun l u e mu q => ?_
    by_cases hl : l = i
    · subst hl
      have hlt : l < ρ.length := by
        have := (List.getElem?_eq_some_iff.mp e).1
        simpa using this
      rw [List.getElem?_set_self hlt] at e
      cases e
      obtain ⟨p2, o2, e3, e4, e5⟩ := h1.val mu
      have hls : l < σ.length := by rw [← f.len]; exact hlt
      rw [List.getElem?_set_self hls] at q
      subst e3
      cases q
      rw [np] at e4
      cases e4
    · rw [List.getElem?_set_ne (Ne.symm hl)] at e q
      obtain ⟨a, o, e1, e2, _⟩ := f1.slot e mu
      rw [e1] at q
      cases q
      rw [np] at e2
      cases e2
  cases t with
  | un => exact f2.unset
  | dat d => obtain ⟨u, e, ru⟩ := r; cases e; exact f2.put ru
  | own xs => exact gen rfl
  | owd ks xs => exact gen rfl
  | owt ks xs => exact gen rfl
  | ini c fs => exact gen rfl
theorem ds_par {i j : Nat} {x y : Str} {a b : Expr} {m n : ZM} {px py pt : Pos} {kt k2 pt2 pos} (c : Cok Γ X k) (hij : i ≠ j) (hx : X.env.scope.names.lookup x = some .local) (hy : X.env.scope.names.lookup y = some .local) (ha : DZ Γ X a m) (hb : DZ Γ X b n)
    (hsa : starEach [a, b] X.env = (false, eval a X.env) :: starEach [b] X.env) (hsb : starEach [b] X.env = (false, eval b X.env) :: starEach [] X.env)
    (hw : swappedStores [.Tuple [.Name x px, .Name y py] kt pt] (.Tuple [a, b] k2 pt2) X.env = pure (some [x, y])) (hs : swapsWithSole [.Tuple [.Name x px, .Name y py] kt pt] (.Tuple [a, b] k2 pt2) pos.line X.env = pure false)
    (hi : X.N[i]? = some x := by rfl) (hj : X.N[j]? = some y := by rfl) :
    DSt Γ X (.Assign [.Tuple [.Name x px, .Name y py] kt pt] (.Tuple [a, b] k2 pt2) pos) (sPar i j m n) := by
  refine ps_imp (ps_par c.calm c.nd hi hj hij hx hy (pa_cons ha (pa_cons hb pa_nil hsb) hsa) hw hs) fun Dn σ H ⟨ρ, S, F, ft, p⟩ => ?_
  refine ⟨ρ, S, F, ft, (st_bind (f := fun ρ s => bnd (n ρ) fun t => ret (.nx ((ρ.set i s).set j t))) ft p).imp fun s S1 F1 H1 g ⟨f1, _, p1⟩ v hv => ?_⟩
  refine ⟨ρ, S1, F1, f1, (st_bind (f := fun ρ t => ret (.nx ((ρ.set i s).set j t))) f1 p1).imp fun t S2 F2 H2 g2 ⟨f2, _, p2⟩ w hw => ?_⟩
  exact ⟨v, w, rfl, p2 F2 _ H2 (Same.refl F2) (ft.putS2 f1 f2 hv (hv.go g2) hw hij)⟩

/-! new lists -/
def zLst (m : Rho → M (List D)) : ZM := fun ρ => bnd (m ρ) fun xs => if xs.length ≤ sizeLine then ret (.own xs) else bad
theorem newS_lst {ρ : Rho} {S : DS} {F H Hb : Hp} {σ : L2.St} {xs : List D} {vs : List V} {q : Addr} (ft : Fit Γ ρ S F σ H) (nq : H q = none) (hb : Hb q = none) (r : RepL Γ.G F xs vs) : NewS Γ Hb F (upd H q (.lst vs)) (.own xs) (.ref q) :=
  ⟨q, ⟨rfl, ft.fresh nq, vs, upd_same, r⟩, fun _ => ⟨rfl, hb⟩⟩
theorem dz_lst {es : List Expr} {pos : Pos} {m : Rho → M (List D)} (h : DA Γ X es m) : DZ Γ X (.List es pos) (zLst m) := by
  refine pe_imp (pe_lst h) fun σ H Q ⟨ρ, S, F, ft, p⟩ => ⟨ρ, S, F, ft, (PostK.bind p).imp fun xs S1 F1 H1 g p1 vs rvs => ?_⟩
  have f1 := ft.step g
  by_cases hz : xs.length ≤ sizeLine
  · rw [if_pos hz] at p1
    refine ⟨by rw [← rvs.length]; exact hz, fun q nq => ?_⟩
    exact p1 F1 _ (Go.allocH (o := .lst vs) f1.le f1.st nq) _ (newS_lst f1 nq (g.grow q nq) rvs)
  · rw [if_neg hz] at p1; exact p1.elim
/-- an expression whose value is a list that nobody else has: rules of the same form -/
def zRgL (o : Rho → M (Int × Int)) : ZM := fun ρ => bnd (o ρ) fun p => if rgB p.1 p.2 = true then ret (.own (rgD p.1 p.2)) else bad
theorem dz_listRg {e : Expr} {o : Rho → M (Int × Int)} {p pos : Pos} (c : Cok Γ X k) (hg : Gl X "list") (hm : X.mg "list" = none) (he : PRg X e (tDRg Γ o)) (na : starEach [e] X.env = (false, eval e X.env) :: starEach [] X.env := by rfl) : DZ Γ X (.Call (.Name "list" p) [e] [] pos) (zRgL o) := by
  refine pe_imp (pe_listRg c.calm hg hm he na) fun σ H Q ⟨ρ, S, F, ft, h⟩ => ⟨ρ, S, F, ft, (PostK.bind h).imp fun x S1 F1 H1 g p1 => ?_⟩
  have f1 := ft.step g
  by_cases hb : rgB x.1 x.2 = true
  · rw [if_pos hb] at p1
    exact ⟨rgB_ok hb, fun q nq => p1 F1 _ (Go.allocH (o := .lst (rgV x.1 x.2)) f1.le f1.st nq) _ (newS_lst f1 nq (g.grow q nq) (rg_rep _ _))⟩
  · rw [if_neg hb] at p1; exact p1.elim
/-- list(x) -/
def zList (m : Rho → M (List D)) : ZM := fun ρ => bnd (m ρ) fun ds => match dList ds with
  | some (.lst xs) => ret (.own xs)
  | _ => bad
theorem dz_list {e : Expr} {m : Rho → M (List D)} {p pos : Pos} (c : Cok Γ X k) (hg : Gl X "list") (hm : X.mg "list" = none) (ha : DA Γ X [e] m) (hs : starEach [e] X.env = (false, eval e X.env) :: starEach [] X.env := by rfl)
    (hpl : (backTo pos (starEach [] X.env)).any (·.1) = false := by rfl) : DZ Γ X (.Call (.Name "list" p) [e] [] pos) (zList m) := by
  refine pe_imp (pe_callTy (callr_list c) hg hm rfl ha (by decide) (by decide) hs hpl) fun σ H Q ⟨ρ, S, F, ft, h⟩ => ⟨ρ, S, F, ft, (PostK.bind h).imp fun ds S1 F1 H1 g p1 vs r => ?_⟩
  have f1 := ft.step g
  cases q : dList ds with
  | none => rw [q] at p1; exact p1.elim
  | some z =>
    rw [q] at p1
    unfold dList at q
    split at q
    · cases q
      obtain ⟨v, rfl, a, ws, rfl, ha, rr⟩ := r.one
      exact ⟨a, ws, rfl, .inl (.inl (.inl (f1.le _ _ ha))), fun q nq => p1 F1 _ (Go.allocH (o := .lst ws) f1.le f1.st nq) _ (newS_lst f1 nq (g.grow q nq) rr)⟩
    · cases q
      obtain ⟨v, rfl, a, ws, rfl, ha, rr⟩ := r.one
      exact ⟨a, ws, rfl, .inr (same_sqT f1.le ha), fun q nq => p1 F1 _ (Go.allocH (o := .lst ws) f1.le f1.st nq) _ (newS_lst f1 nq (g.grow q nq) rr)⟩
    · cases q
/-- xs * n -/
def zRep (m n : EM) : ZM := fun ρ => bnd (m ρ) fun x => bnd (n ρ) fun y => match x, y with
  | .lst xs, .int j => if repOk xs.length j = true then ret (.own (List.replicate j.toNat xs).flatten) else bad
  | _, _ => bad
theorem dz_rep {a b : Expr} {m n : EM} {pos : Pos} (ha : DE Γ X a m) (hb : DE Γ X b n) : DZ Γ X (.BinOp a .Mult b pos) (zRep m n) := by
  refine pe_imp (pe_op op_rep ha hb) fun σ H Q ⟨ρ, S, F, ft, h⟩ => ⟨ρ, S, F, ft, (PostK.bind h).imp fun x S1 F1 H1 g p1 v rx => ?_⟩
  have f1 := ft.step g
  refine ⟨ρ, S1, F1, f1, (PostK.bind p1).imp fun y S2 F2 H2 g2 p2 w ry => ?_⟩
  have f2 := f1.step g2
  have rx2 := rx.mono g2.ext
  cases x <;> cases y <;> try exact p2.elim
  rename_i xs j
  have p3 : PostK Γ.G Γ.E F2 H2 ((if repOk xs.length j = true then ret (.own (List.replicate j.toNat xs).flatten) else bad) S2) fun s _ F' H' => ∀ v, NewS Γ H F' H' s v → Q v H' := p2
  by_cases hz : repOk xs.length j = true
  · rw [if_pos hz] at p3
    obtain ⟨l, vs, rfl, ha, r1⟩ := rx2
    cases ry
    have hz' : -(2 ^ 63) ≤ j ∧ j < 2 ^ 63 ∧ xs.length * j.toNat ≤ sizeLine := by simpa [repOk] using hz
    refine ⟨l, j, vs, rfl, rfl, f2.le _ _ ha, hz'.1, hz'.2.1, by rw [← r1.length]; exact hz'.2.2, fun q nq => ?_⟩
    exact p3 F2 _ (Go.allocH (o := .lst (List.replicate j.toNat vs).flatten) f2.le f2.st nq) _ (newS_lst f2 nq (g.grow q (g2.grow q nq)) (repL_flat r1 _))
  · rw [if_neg hz] at p3; exact p3.elim

/-! ### what is done to own lists -/
/-- the own list in a slot is written -/
theorem Fit.write {ρ : Rho} {S : DS} {F H : Hp} {σ : L2.St} {i : Nat} {xs ys : List D} (f : Fit Γ ρ S F σ H) (e : ρ[i]? = some (.own xs)) : ∃ p vs, σ[i]? = some (some (.ref p)) ∧ H p = some (.lst vs) ∧ RepL Γ.G F xs vs ∧
    ∀ ws, RepL Γ.G F ys ws → Fit Γ (ρ.set i (.own ys)) S F σ (upd H p (.lst ws)) := by
  obtain ⟨ow, sl⟩ := f.sl
  obtain ⟨o, e1, e2, m, vs, hp, r⟩ := sl.at_ i _ e
  subst e2
  refine ⟨ow i, vs, e1, hp, r, fun ws rw => ?_⟩
  have ne : ∀ {a : Addr} {u : HO}, F a = some u → a ≠ ow i := fun h z => by rw [z, m.f] at h; cases h
  refine ⟨⟨fun a u h => by rw [upd_ne (ne h)]; exact f.le a u h, fun hs => ?_, f.go.ext, fun a u h n => ?_, f.go.new, fun a h => ?_⟩, by simp [f.len], ow, ⟨fun j s q => ?_, fun j l s t q1 q2 m1 m2 => ?_⟩⟩
  · have st := f.st hs
    have n3 := m.st hs
    exact ⟨by rw [upd_ne (Ne.symm n3.1)]; exact st.hd, by rw [upd_ne (Ne.symm n3.2.1)]; exact st.hg, by rw [upd_ne (Ne.symm n3.2.2)]; exact st.hc, st.fd, st.fg, st.fc, st.ne⟩
  · have hne : a ≠ ow i := fun z => by rw [z, m.h0] at h; cases h
    rw [upd_ne hne]
    exact f.go.keep a u h n
  · by_cases z : a = ow i
    · rw [z, upd_same] at h; cases h
    · rw [upd_ne z] at h; exact f.go.grow a h
  · by_cases z : i = j
    · subst z
      have hl : i < ρ.length := (List.getElem?_eq_some_iff.mp e).1
      rw [List.getElem?_set_self hl] at q
      cases q
      exact ⟨_, e1, rfl, m, ws, upd_same, rw⟩
    · rw [List.getElem?_set_ne z] at q
      obtain ⟨o2, e3, r2⟩ := sl.at_ j s q
      refine ⟨o2, e3, ?_⟩
      have hd : s.mine = true → ow j ≠ ow i := fun mj z2 => z (sl.inj j i s _ q e mj rfl z2).symm
      cases s with
      | un => trivial
      | dat d => exact r2
      | own zs => obtain ⟨e4, m4, vs4, h4, r4⟩ := r2; exact ⟨e4, m4, vs4, by rw [upd_ne (hd rfl)]; exact h4, r4⟩
      | owd ks zs => obtain ⟨e4, m4, vs4, h4, r4⟩ := r2; exact ⟨e4, m4, vs4, by rw [upd_ne (hd rfl)]; exact h4, r4⟩
      | owt ks zs => obtain ⟨e4, m4, vs4, h4, r4⟩ := r2; exact ⟨e4, m4, vs4, by rw [upd_ne (hd rfl)]; exact h4, r4⟩
      | ini c zs => obtain ⟨e4, m4, vs4, ⟨dx, h4⟩, r4⟩ := r2; exact ⟨e4, m4, vs4, ⟨dx, by rw [upd_ne (hd rfl)]; exact h4⟩, r4⟩
  · have back : ∀ {l : Nat} {t : Sl}, (ρ.set i (.own ys))[l]? = some t → t.mine = true → ∃ t', ρ[l]? = some t' ∧ t'.mine = true := fun {l t} q mt => by
      by_cases z : i = l
      · subst z
        exact ⟨_, e, rfl⟩
      · rw [List.getElem?_set_ne z] at q
        exact ⟨t, q, mt⟩
    obtain ⟨s', q1', m1'⟩ := back q1 m1
    obtain ⟨t', q2', m2'⟩ := back q2 m2
    exact sl.inj j l s' t' q1' q2' m1' m2'
/-- x.append(e), x own -/
def sApp (i : Nat) (m : EM) : SM := fun ρ => match ρ[i]? with
  | some (.own xs) => bnd (m ρ) fun d => if xs.length < sizeLine then ret (.nx (ρ.set i (.own (xs ++ [d])))) else bad
  | _ => bad
theorem own_of {α : Type} {o : Option Sl} {f : List D → M α} {S : DS} {P : Rs α × DS → Prop} (h : P ((match o with
  | some (.own xs) => f xs
  | _ => bad) S)) (nb : ∀ S, ¬ P (.bad, S)) : ∃ xs, o = some (.own xs) ∧ P (f xs S) := by
  cases o with
  | none => exact (nb _ h).elim
  | some s =>
    cases s with
    | own xs => exact ⟨xs, rfl, h⟩
    | _ => exact (nb _ h).elim
theorem ds_app {i : Nat} {x : Str} {e : Expr} {m : EM} {apos cpos np pos : Pos} (h : DE Γ X e m) (hN : X.N[i]? = some x := by rfl) (hv : Vis X.env.scope x := by first | exact Or.inl rfl | exact Or.inr (Or.inl rfl) | exact Or.inr (Or.inr rfl)) (hd : (x == ("__debug__" : Str)) = false := by decide)
    (hcd : (x == ("__classdict__" : Str)) = false := by decide) (hbase : attributeBase (.Name x np) "append" X.env (eval (.Name x np) X.env) = eval (.Name x np) X.env := by rfl)
    (hfew : ((backTo cpos (starEach [e] X.env)).all (fun x => !x.1) && (backToKw cpos (keywordEach [] X.env)).all (fun x => x.1.isSome) && decide ([e].length + ([] : List Keyword).length + (if ([] : List Keyword).isEmpty then 0 else 1) < 30)) = true := by rfl)
    (hline : (apos.endLine == cpos.line) = true := by rfl) (hst : starEach [e] X.env = (false, eval e X.env) :: starEach [] X.env := by rfl) (hplain : (backTo cpos (starEach [] X.env)).any (·.1) = false := by rfl)
    (hs : swapsWith (.Call (.Attribute (.Name x np) "append" apos) [e] [] cpos) none pos.line X.env = pure false := by rfl) :
    DSt Γ X (.Expr (.Call (.Attribute (.Name x np) "append" apos) [e] [] cpos) pos) (sApp i m) := by
  refine ps_imp (ps_expr (pe_bm PySem.F.plainAttrs_list PySem.F.slot_list_append PySem.F.type_list_append mt_append (pe_var hN hv hd hcd) (pa_cons h pa_nil hst) hbase hfew hline hst hplain) hs) fun Dn σ H ⟨ρ, S, F, ft, p⟩ => ?_
  obtain ⟨xs, eo, p⟩ := own_of (P := PostS Γ F Dn) p fun _ z => z
  obtain ⟨q, vs, e1, hp, r, _⟩ := ft.write (ys := xs) eo
  refine ⟨.ref q, e1, .inl ⟨rfl, _, .inl (.inl hp)⟩, ρ, S, F, ft, (st_bind (f := fun ρ d => if xs.length < sizeLine then ret (.nx (ρ.set i (.own (xs ++ [d])))) else bad) ft p).imp fun d S1 F1 H1 g ⟨f1, _, p1⟩ v rv => ?_⟩
  obtain ⟨q', vs', e1', hp', r', wr⟩ := f1.write (ys := xs ++ [d]) eo
  rw [e1] at e1'
  cases e1'
  by_cases hz : xs.length < sizeLine
  · rw [if_pos hz] at p1
    exact ⟨q, vs', v, rfl, rfl, hp', by rw [← r'.length]; exact hz, p1 F1 σ _ (Same.refl F1) (wr _ (r'.append (.cons rv .nil)))⟩
  · rw [if_neg hz] at p1; exact p1.elim
/-- x[e] = v, x own -/
def sSetIx (i : Nat) (mi mv : EM) : SM := fun ρ => bnd (mv ρ) fun v => match ρ[i]? with
  | some (.own xs) => bnd (mi ρ) fun j => match j with
    | .int z => (match ixN xs.length z with
      | some n => ret (.nx (ρ.set i (.own (xs.set n v))))
      | none => bad)
    | _ => bad
  | _ => bad
theorem ds_setIx {i : Nat} {x : Str} {e v : Expr} {mi mv : EM} {np pos' pos : Pos} (hi : DE Γ X e mi) (hv : DE Γ X v mv) (hN : X.N[i]? = some x := by rfl) (hvis : Vis X.env.scope x := by first | exact Or.inl rfl | exact Or.inr (Or.inl rfl) | exact Or.inr (Or.inr rfl)) (hd : (x == ("__debug__" : Str)) = false := by decide)
    (hcd : (x == ("__classdict__" : Str)) = false := by decide)
    (ha : ∀ w, assign (.Subscript (.Name x np) e pos') X.env w = (do
      let ov ← holding [w] (eval (.Name x np) X.env)
      let iv ← holding [w, ov] (eval e X.env)
      standAt pos'
      holding [w, ov, iv] (setItem ov iv w)
      release [w, ov, iv] []) := by intro _; rfl) (hs : swapsWithSole [.Subscript (.Name x np) e pos'] v pos.line X.env = pure false := by rfl) (hw : swappedStores [.Subscript (.Name x np) e pos'] v X.env = pure none := by rfl)
    (h1 : (assignEach [.Subscript (.Name x np) e pos'] X.env).map (·.2) = [assign (.Subscript (.Name x np) e pos') X.env] := by rfl) :
    DSt Γ X (.Assign [.Subscript (.Name x np) e pos'] v pos) (sSetIx i mi mv) := by
  refine ps_imp (ps_asg hv (pg_sub (pe_var hN hvis hd hcd) hi set_list ha) hs hw h1) fun Dn σ H ⟨ρ, S, F, ft, p⟩ => ?_
  refine ⟨ρ, S, F, ft, (st_bind (f := fun ρ v => match ρ[i]? with
  | some (.own xs) => bnd (mi ρ) fun j => match j with
    | .int z => (match ixN xs.length z with
      | some n => ret (.nx (ρ.set i (.own (xs.set n v))))
      | none => bad)
    | _ => bad
  | _ => bad) ft p).imp fun d S1 F1 H1 g ⟨f1, _, p1⟩ u ru => ?_⟩
  obtain ⟨xs, eo, p1⟩ := own_of (P := PostS Γ F1 Dn) p1 fun _ z => z
  obtain ⟨q, vs, e1, hp, r, _⟩ := f1.write (ys := xs) eo
  refine ⟨.ref q, e1, ρ, S1, F1, f1, (st_bind (f := fun ρ j => match j with
    | .int z => (match ixN xs.length z with
      | some n => ret (.nx (ρ.set i (.own (xs.set n d))))
      | none => bad)
    | _ => bad) f1 p1).imp fun j S2 F2 H2 g2 ⟨f2, e2, p2⟩ w rw => ?_⟩
  cases j with
  | int z =>
    cases rw
    have p3 : PostS Γ F2 Dn ((match (ixN xs.length z : Option Nat) with
        | some n => ret (Fl.nx (ρ.set i (.own (xs.set n d))))
        | none => bad) S2) := p2
    cases qn : ixN xs.length z with
    | none => rw [qn] at p3; exact p3.elim
    | some n =>
      rw [qn] at p3
      obtain ⟨q', vs', e1', hp', r', wr⟩ := f2.write (ys := xs.set n d) eo
      rw [e1] at e1'
      cases e1'
      exact ⟨q, vs', z, n, rfl, rfl, hp', by rw [← r'.length]; exact qn, p3 F2 σ _ (Same.refl F2) (wr _ (r'.set (ru.mono e2) n))⟩
  | _ => exact p2.elim
/-- before a statement: the frame frozen for good -/
def sFrz (m : SM) : SM := fun ρ => m (thaw ρ)
theorem ds_frz {st : Stmt} {m : SM} (h : DSt Γ X st m) : DSt Γ X st (sFrz m) := ps_imp h fun Dn σ H ⟨ρ, S, F, ft, p⟩ => by
  obtain ⟨F', f', sm, _⟩ := ft.thaw
  exact ⟨_, S, F', f', PostS.mono p sm⟩
end
end Dv

/-! Dv5: iterators, for, comprehensions. -/
namespace Dv
open PySem PySem.Spec L2

/-- J hands out what stands for xs, as long as F stands -/
def ItD (G : Gh) (J : It) (F : Hp) (xs : List D) : Prop := ∀ F' H S, Same F F' → Same F' H → (G.hs = true → StOK G F' H S) →
  (∀ i, i < xs.length → J.go i H ∧ ∀ x H', J.yld i H x H' → ∃ d F'', xs[i]? = some d ∧ Go G F' H S F'' H' ∧ Rep G F'' d x) ∧ J.stop xs.length H
section
variable {G : Gh} {F : Hp}
theorem itD_list {a : Addr} {xs : List D} {vs : List V} (h : F a = some (.lst vs)) (r : RepL G F xs vs) : ItD G (Itl G.K a) F xs := by
  intro F' H S e le st
  have hl : SqL G.K H a vs := .inl (.inl (le _ _ (e _ _ h)))
  refine ⟨fun i hi => ?_, vs, hl, by rw [r.length]; exact Nat.le_refl _⟩
  have hi' : i < vs.length := by rw [← r.length]; exact hi
  refine ⟨⟨vs, vs[i], hl, by simp [hi']⟩, fun x H' y => ?_⟩
  obtain ⟨rfl, y⟩ := y
  have q := y vs hl
  obtain ⟨d, e1, r1⟩ := r.getV q
  exact ⟨d, F', e1, Go.refl le st, r1.mono e⟩
theorem itD_tup {a : Addr} {xs : List D} {vs : List V} (h : SqT G.K F a vs) (r : RepL G F xs vs) : ItD G (Itt G.K a) F xs := by
  intro F' H S e le st
  have hl : SqT G.K H a vs := same_sqT le (same_sqT e h)
  refine ⟨fun i hi => ?_, vs, hl, by rw [r.length]; exact Nat.le_refl _⟩
  have hi' : i < vs.length := by rw [← r.length]; exact hi
  refine ⟨⟨vs, vs[i], hl, by simp [hi']⟩, fun x H' y => ?_⟩
  obtain ⟨rfl, y⟩ := y
  have q := y vs hl
  obtain ⟨d, e1, r1⟩ := r.getV q
  exact ⟨d, F', e1, Go.refl le st, r1.mono e⟩
theorem itD_scr {a : Addr} {ns : List Int} (h : SqL G.K F a (ns.map V.int)) : ItD G (Itl G.K a) F (ns.map D.int) := by
  intro F' H S e le st
  have hl : SqL G.K H a (ns.map V.int) := Same.seq le (Same.seq e h)
  refine ⟨fun i hi => ?_, _, hl, by simp⟩
  have hi' : i < ns.length := by simpa using hi
  refine ⟨⟨_, .int ns[i], hl, by simp [hi']⟩, fun x H' y => ?_⟩
  obtain ⟨rfl, y⟩ := y
  have q := y _ hl
  have q2 : x = V.int ns[i] := by simpa [hi'] using q.symm
  subst q2
  exact ⟨.int ns[i], F', by simp [hi'], Go.refl le st, rfl⟩
theorem itD_range {lo : Int} {n : Nat} : ItD G (Itr lo n) F ((List.range n).map fun i => D.int (lo + (i : Nat))) := by
  intro F' H S e le st
  refine ⟨fun i hi => ?_, by show n ≤ _; simp⟩
  have hi' : i < n := by simpa using hi
  refine ⟨hi', fun x H' y => ?_⟩
  obtain ⟨rfl, rfl⟩ := y
  exact ⟨.int (lo + (i : Nat)), F', by simp [hi'], Go.refl le st, rfl⟩
def enumD : Nat → List D → List D
  | _, [] => []
  | k, x :: xs => .tup [.int (k : Nat), x] :: enumD (k + 1) xs
theorem enumD_length : ∀ (xs : List D) (k : Nat), (enumD k xs).length = xs.length
  | [], _ => rfl
  | _ :: xs, k => by simp [enumD, enumD_length xs]
theorem enumD_get : ∀ (xs : List D) (k i : Nat) (d : D), xs[i]? = some d → (enumD k xs)[i]? = some (.tup [.int ((k + i : Nat) : Int), d])
  | [], _, _, _, h => by simp at h
  | x :: xs, k, 0, d, h => by simp at h; subst h; simp [enumD]
  | x :: xs, k, i + 1, d, h => by
    have h' : xs[i]? = some d := by simpa using h
    have h2 := enumD_get xs (k + 1) i d h'
    have e : k + 1 + i = k + (i + 1) := by omega
    rw [e] at h2
    show (enumD (k + 1) xs)[i]? = _
    exact h2
theorem itD_enum {a : Addr} {xs : List D} {vs : List V} (h : F a = some (.lst vs)) (r : RepL G F xs vs) : ItD G (Ite G.K a) F (enumD 0 xs) := by
  intro F' H S e le st
  have hl : SqL G.K H a vs := .inl (.inl (le _ _ (e _ _ h)))
  refine ⟨fun i hi => ?_, vs, hl, by rw [enumD_length, r.length]; exact Nat.le_refl _⟩
  rw [enumD_length] at hi
  have hi' : i < vs.length := by rw [← r.length]; exact hi
  refine ⟨⟨vs, vs[i], hl, by simp [hi']⟩, fun v H' y => ?_⟩
  obtain ⟨T, x, rfl, nT, rfl, y⟩ := y
  obtain ⟨d, e1, r1⟩ := r.getV (y vs hl)
  have g := Go.alloc (o := .tup [.int (i : Nat), x]) le st nT
  refine ⟨_, _, enumD_get xs 0 i d e1, g, T, _, rfl, .inl (.inl upd_same), ?_⟩
  exact .cons (by simp [Rep]) (.cons ((r1.mono e).mono g.ext) .nil)
def zipD : List D → List D → List D
  | x :: xs, y :: ys => .tup [x, y] :: zipD xs ys
  | _, _ => []
theorem zipD_length : ∀ xs ys : List D, (zipD xs ys).length = min xs.length ys.length
  | [], _ => by simp [zipD]
  | _ :: _, [] => by simp [zipD]
  | _ :: xs, _ :: ys => by simp [zipD, zipD_length xs ys]
theorem zipD_get : ∀ (xs ys : List D) (i : Nat) (d e : D), xs[i]? = some d → ys[i]? = some e → (zipD xs ys)[i]? = some (.tup [d, e])
  | [], _, _, _, _, h, _ => by simp at h
  | _ :: _, [], _, _, _, _, h => by simp at h
  | x :: xs, y :: ys, 0, d, e, h, k => by simp at h k; subst h k; simp [zipD]
  | x :: xs, y :: ys, i + 1, d, e, h, k => by
    simp only [zipD, List.getElem?_cons_succ]
    exact zipD_get xs ys i d e (by simpa using h) (by simpa using k)
theorem itD_zip {a b : Addr} {xs ys : List D} {vs ws : List V} (h : F a = some (.lst vs)) (r : RepL G F xs vs) (h2 : F b = some (.lst ws)) (r2 : RepL G F ys ws) : ItD G (Itz G.K a b) F (zipD xs ys) := by
  intro F' H S e le st
  have hl : SqL G.K H a vs := .inl (.inl (le _ _ (e _ _ h)))
  have hl2 : SqL G.K H b ws := .inl (.inl (le _ _ (e _ _ h2)))
  refine ⟨fun i hi => ?_, vs, ws, hl, hl2, by rw [zipD_length, r.length, r2.length]; omega⟩
  rw [zipD_length, r.length, r2.length] at hi
  have hi1 : i < vs.length := by omega
  have hi2 : i < ws.length := by omega
  refine ⟨⟨vs, ws, vs[i], ws[i], hl, hl2, by simp [hi1], by simp [hi2]⟩, fun v H' y => ?_⟩
  obtain ⟨T, x, x2, rfl, nT, rfl, y, y2⟩ := y
  obtain ⟨d, e1, q1⟩ := r.getV (y vs hl)
  obtain ⟨d2, e2, q2⟩ := r2.getV (y2 ws hl2)
  have g := Go.alloc (o := .tup [x, x2]) le st nT
  exact ⟨_, _, zipD_get xs ys i d d2 e1 e2, g, T, _, rfl, .inl (.inl upd_same), .cons ((q1.mono e).mono g.ext) (.cons ((q2.mono e).mono g.ext) .nil)⟩
theorem itD_zipT {a b : Addr} {xs ys : List D} {vs ws : List V} (h : SqT G.K F a vs) (r : RepL G F xs vs) (h2 : SqT G.K F b ws) (r2 : RepL G F ys ws) : ItD G (RZ.ItzT G.K a b) F (zipD xs ys) := by
  intro F' H S e le st
  have hl : SqT G.K H a vs := same_sqT le (same_sqT e h)
  have hl2 : SqT G.K H b ws := same_sqT le (same_sqT e h2)
  refine ⟨fun i hi => ?_, vs, ws, hl, hl2, by rw [zipD_length, r.length, r2.length]; omega⟩
  rw [zipD_length, r.length, r2.length] at hi
  have hi1 : i < vs.length := by omega
  have hi2 : i < ws.length := by omega
  refine ⟨⟨vs, ws, vs[i], ws[i], hl, hl2, by simp [hi1], by simp [hi2]⟩, fun v H' y => ?_⟩
  obtain ⟨T, x, x2, rfl, nT, rfl, y, y2⟩ := y
  obtain ⟨d, e1, q1⟩ := r.getV (y vs hl)
  obtain ⟨d2, e2, q2⟩ := r2.getV (y2 ws hl2)
  have g := Go.alloc (o := .tup [x, x2]) le st nT
  exact ⟨_, _, zipD_get xs ys i d d2 e1 e2, g, T, _, rfl, .inl (.inl upd_same), .cons ((q1.mono e).mono g.ext) (.cons ((q2.mono e).mono g.ext) .nil)⟩
end

/-! ### enumerate of a tuple -/
section
open PyProof.Rows
/-- the tuple at a, each item in a new pair -/
def IteT (K : PySem.W.Frag) (a : Addr) : It :=
  ⟨fun j H => ∃ (xs : List V) (x : V), SqT K H a xs ∧ xs[j]? = some x, fun j H v H' => ∃ T x, v = .ref T ∧ H T = none ∧ H' = upd H T (.tup [.int (j : Nat), x]) ∧ ∀ xs, SqT K H a xs → xs[j]? = some x, fun j H => ∃ xs : List V, SqT K H a xs ∧ xs.length = j⟩
theorem turn_enumT {P : Program} {w : World} {K : PySem.W.Frag} {elts : List Expr} {kk : Nat} {tpos : Pos} (a e it : Addr) :
    Turn P w K (.Tuple elts kk tpos) (IteT K a) [e, it] e (fun j h => (∃ o, IsEnum h e it ((j : Nat) : Int) o) ∧ h.IsTupleIter it a j ∧ e ≠ it ∧ a ≠ it ∧ a ≠ e) where
  mem := by simp
  obj := fun j h st b hb => by
    obtain ⟨⟨old, he⟩, ⟨o, ho, hc, hd⟩, _⟩ := st
    rcases (show b = e ∨ b = it by simpa using hb) with z | z
    · rw [z]; exact ⟨_, he, fun v q => nomatch q⟩
    · rw [z]; exact ⟨o, ho, fun v q => by rw [hd] at q; cases q⟩
  keep := fun j h h' st k => let ⟨⟨old, he⟩, hi, hne⟩ := st; ⟨⟨old, k e (by simp) _ he⟩, hi.at fun o q => k it (by simp) o q, hne⟩
  item := by
    intro X hP hw hK hc j pins s σ H E I hf st hg
    subst hP hw hK
    obtain ⟨⟨old, he⟩, hit, hne, hai, hae⟩ := st
    obtain ⟨xs, x, hq, hx⟩ := hg
    obtain ⟨its, rv, p, hz⟩ := I.tuple hq
    obtain ⟨u, hu, ru⟩ := rv.get hx
    have hel : e < s.heap.objs.size := Heap.lt_size he
    have hil : it < s.heap.objs.size := by obtain ⟨_, q, _⟩ := hit; exact Heap.lt_size q
    have hj : j < its.toArray.size := by
      have := (List.getElem?_eq_some_iff.mp hu).1
      simpa using this
    have pt : s.heap.IsTuple a its.toArray := p
    have DD := Draws.tuple (prog := X.prog) (w := X.w) (A := X.A.in1) (show X.A.in1.handled = none from I.ok.hd hc) it a hai its.toArray
    refine wpAny_pyNext_enum_itemC DD he ⟨hit, pt⟩ hj hne (by simp [hne, Ne.symm hae]) fun y h' tk hy ho hst hT hsz hk => ?_
    have ey : y = u := by
      have h1 : its.toArray[j]? = some y := hy
      have h2 : its.toArray[j]? = some u := by simpa using hu
      rw [h1] at h2
      exact Option.some.inj h2
    subst ey
    refine ⟨_, rfl, wpAny_letOwnedTupleGo_enum (s := { s with heap := h', toks := tk + 1 }) ho fun h'' he' sb => ?_⟩
    have hT2 : h''.get? s.heap.objs.size = some { cls := .type "tuple", data := .seq #[.int (j : Nat) tk, y] } := (sb.2 _ (Nat.ne_of_gt hel)).trans hT
    have nw : ObjOk X.prog X.w (upd H s.heap.objs.size (.tup [.int (j : Nat), x])) h'' s.heap.objs.size (.tup [.int (j : Nat), x]) :=
      ⟨by show 2 ≤ sizeLine; decide, [.int (j : Nat) tk, y], .cons ⟨_, rfl⟩ (.cons ru .nil), ⟨_, hT2, rfl, _, rfl⟩⟩
    have I1 : Inv X pins σ (upd H s.heap.objs.size (.tup [.int (j : Nat), x])) { s with heap := h'', toks := tk + 1 } :=
      I.turnedNew (ch := [e, it]) (fun b ob hb q => (sb.2 b (fun z => hb (by simp [z]))).trans (hk b ob (fun z => hb (by simp [z])) (fun z => hb (by simp [z])) q)) hf (Nat.le_refl _) nw
    refine ⟨.ref s.heap.objs.size, _, I1, rfl, ⟨_, x, rfl, I.hok.fresh (Nat.le_refl _), rfl, fun ys hy => by rw [I.tuple_inj hy hq]; exact hx⟩, ⟨⟨y, ?_⟩, hst.1.at fun o q => (sb.2 it (Ne.symm hne)).trans q, hne, hai, hae⟩, fun b hb => ?_⟩
    · have e1 : ((j + 1 : Nat) : Int) = (j : Int) + 1 := by omega
      rw [e1]; exact he'
    · have hb' : b < s.heap.objs.size := by
        rcases (show b = e ∨ b = it by simpa using hb) with z | z
        · rw [z]; exact hel
        · rw [z]; exact hil
      rw [upd_ne (Nat.ne_of_lt hb')]
      exact (hf b hb).1
  done := by
    intro X hP hw hK hc j pins s σ H E I hf st hg
    subst hP hw hK
    obtain ⟨⟨old, he⟩, hit, hne, hai, hae⟩ := st
    obtain ⟨xs, hq, hx⟩ := hg
    obtain ⟨its, rv, p, hz⟩ := I.tuple hq
    obtain ⟨f0, f1, f2, f3, f4, f5⟩ := hf it (by simp)
    have hl := rv.length
    have hj : j = its.toArray.size := by simp; omega
    subst hj
    have pt : s.heap.IsTuple a its.toArray := p
    have DD := Draws.tuple (prog := X.prog) (w := X.w) (A := X.A.in1) (show X.A.in1.handled = none from I.ok.hd hc) it a hai its.toArray
    exact wpAny_pyNext_enum_endD DD he ⟨hit, pt⟩ fun h' eb => ⟨rfl, I.turned (t' := s.toks) (fun b o hb q => eb b o hb q) f0 f1 f3 f4 f5⟩
  self := fun A j s Q E st h => let ⟨⟨_, he⟩, _⟩ := st; wpAny_pyIter_enum he h
end
theorem itD_enumT {G : Gh} {F : Hp} {a : Addr} {xs : List D} {vs : List V} (h : SqT G.K F a vs) (r : RepL G F xs vs) : ItD G (IteT G.K a) F (enumD 0 xs) := by
  intro F' H S e le st
  have hl : SqT G.K H a vs := same_sqT le (same_sqT e h)
  refine ⟨fun i hi => ?_, vs, hl, by rw [enumD_length, r.length]⟩
  rw [enumD_length] at hi
  have hi' : i < vs.length := by rw [← r.length]; exact hi
  refine ⟨⟨vs, vs[i], hl, by simp [hi']⟩, fun v H' y => ?_⟩
  obtain ⟨T, x, rfl, nT, rfl, y⟩ := y
  obtain ⟨d, e1, r1⟩ := r.getV (y vs hl)
  have g := Go.alloc (o := .tup [.int (i : Nat), x]) le st nT
  refine ⟨_, _, enumD_get xs 0 i d e1, g, T, _, rfl, .inl (.inl upd_same), ?_⟩
  exact .cons (by simp [Rep]) (.cons ((r1.mono e).mono g.ext) .nil)

section
open PyProof.Rows
variable {X : Cx} {tg : Expr}
/-- enumerate(e), e a list or a tuple -/
def iEnumA (K : PySem.W.Frag) (te : TE) : TI := fun σ H R => te σ H fun x H1 => ∃ a xs, x = .ref a ∧ ((SqL K H1 a xs ∧ R (Ite K a) H1) ∨ (SqT K H1 a xs ∧ R (IteT K a) H1))
theorem enumT_new {v : Value} {oi : Obj} {Hv : Heap → Prop} (B : Begins v oi Hv) :
    Meets (Builtin.«enumerate.__new__» ⟨[.type "enumerate", v], []⟩) (fun _ R z => Hv z.heap ∧
      R (.ok (.ret (.ref (z.heap.push oi).objs.size))) { z with heap := (z.heap.push oi).push { cls := .type "enumerate", data := .fields #[.none, .bool false, .ref z.heap.objs.size, rawInt 0, .none, .none] } }) :=
  .of_wp fun prog w A R z hz => by
    obtain ⟨hh, gg, dd, tt, oo⟩ := z; obtain ⟨hv, hz⟩ := hz
    have hsubE := sub_enumerate
    have stepI : ∀ {A' : Around} {E' : Value → Shared → Prop} {Q' : Value → Shared → Prop}, Q' (.ref hh.objs.size) ⟨hh.push oi, gg, dd, tt, oo⟩ → wpAny (model prog w) A' (pyIter v) Q' E' ⟨hh, gg, dd, tt, oo⟩ :=
      fun q => B.iter prog w _ _ ⟨hh, gg, dd, tt, oo⟩ _ hv q
    wp_walk using stepI
    refine wpAny_stack_any fun stk => wpAny_pure ?_
    split
    · rename_i cc _ _ _ _ _
      cases (cc == Value.type "enumerate")
      · wp_walk using stepI
        exact ⟨_, rfl, hz⟩
      · wp_walk using stepI
        exact ⟨_, rfl, hz⟩
    · wp_walk using stepI
      exact ⟨_, rfl, hz⟩
theorem call_enumB {prog : Program} {w : World} {A : Around} {E : Value → Shared → Prop} {z : Shared} {v : Value} {oi : Obj} {Hv : Heap → Prop} {Q : Value → Shared → Prop} (B : Begins v oi Hv) (hv : Hv z.heap)
    (h : ∀ h', IsEnum h' (z.heap.objs.size + 1) z.heap.objs.size 0 .none → h'.get? z.heap.objs.size = some oi → h'.objs.size = z.heap.objs.size + 2 →
      (∀ b o, z.heap.get? b = some o → h'.get? b = some o) → Q (.ref (z.heap.objs.size + 1)) { z with heap := h' }) :
    wpAny (model prog w) A (call (.type "enumerate") [v]) Q E z := by
  refine callType_new F.called_enumerate (by decide) (F.typeCall_enumerate_1 _) (F.newCall_enumerate_1 _) (fun obj => F.args_object_init_2 obj _) F.entry_enumerate_new (enumT_new B) ⟨hv, ?_⟩
  have hs1 : (z.heap.push oi).objs.size = z.heap.objs.size + 1 := Heap.size_push ..
  show _ ∧ _
  rw [hs1]
  have he : IsEnum ((z.heap.push oi).push { cls := .type "enumerate", data := .fields #[.none, .bool false, .ref z.heap.objs.size, rawInt 0, .none, .none] }) (z.heap.objs.size + 1) z.heap.objs.size 0 .none := by
    have q := Heap.get?_push_size (z.heap.push oi) (o := { cls := .type "enumerate", data := .fields #[.none, .bool false, .ref z.heap.objs.size, rawInt 0, .none, .none] }) rfl
    rw [hs1] at q; exact q
  exact ⟨⟨_, he, rfl⟩, h _ he (Heap.get?_push_of_some _ (Heap.get?_push_size _ B.free)) (by rw [Heap.size_push, hs1]) fun b o x => Heap.get?_push_of_some _ (Heap.get?_push_of_some _ x)⟩
theorem pi_enumA {e : Expr} {te : TE} {p pos tpos : Pos} {elts : List Expr} {kk : Nat} (hg : Gl X "enumerate") (hm : X.mg "enumerate" = none) (ha : PE X e te) (hs : starEach [e] X.env = (false, eval e X.env) :: starEach [] X.env := by rfl) :
    PI X (.Tuple elts kk tpos) (.Call (.Name "enumerate" p) [e] [] pos) (iEnumA X.K te) := by
  refine ⟨fun pins s σ H R I h => ?_⟩
  refine Call_ (ld_blt I hg hm boot_enumerate (PyProof.Rows.callWith_type1 (one_arg ha I h (fun v s1 x H1 I1 r1 q1 => ?_) hs) hs rfl))
  obtain ⟨a, xs, rfl, q1⟩ := q1
  cases r1
  have two : ∀ c, c ∈ [s1.heap.objs.size + 1, s1.heap.objs.size] → s1.heap.objs.size ≤ c := fun c hc => by
    rcases (show c = s1.heap.objs.size + 1 ∨ c = s1.heap.objs.size by simpa using hc) with z | z
    · rw [z]; exact Nat.le_add_right _ _
    · rw [z]; exact Nat.le_refl _
  rcases q1 with ⟨hq, q⟩ | ⟨hq, q⟩
  · obtain ⟨its, rv, pl, hz⟩ := I1.list hq
    refine call_enumerate_list pl.isList fun h' he hit hsz hk => wpAny_pyIter_enum he ?_
    exact ⟨s1.heap.objs.size + 1, [s1.heap.objs.size + 1, s1.heap.objs.size], _, _, H1, rfl, I1.kept (t' := s1.toks) hk, turn_enum a (s1.heap.objs.size + 1) s1.heap.objs.size, ⟨⟨.none, he⟩, hit, Nat.succ_ne_self _⟩, fun b hb => I1.fpOk (two b hb) (I1.hok.fresh (two b hb)), q⟩
  · obtain ⟨its, rv, pl, hz⟩ := I1.tuple hq
    have pt : s1.heap.IsTuple a its.toArray := pl
    have la : a < s1.heap.objs.size := by obtain ⟨o, ho, _⟩ := id pl; exact Heap.lt_size ho
    refine call_enumB (begins_tuple a its.toArray) pt fun h' he hit hsz hk => wpAny_pyIter_enum he ?_
    exact ⟨s1.heap.objs.size + 1, [s1.heap.objs.size + 1, s1.heap.objs.size], _, _, H1, rfl, I1.kept (t' := s1.toks) hk, turn_enumT a (s1.heap.objs.size + 1) s1.heap.objs.size, ⟨⟨.none, he⟩, ⟨_, hit, rfl, rfl⟩, Nat.succ_ne_self _, Nat.ne_of_lt la, Nat.ne_of_lt (Nat.lt_succ_of_lt la)⟩,
      fun b hb => I1.fpOk (two b hb) (I1.hok.fresh (two b hb)), q⟩
/-- over a list or a tuple -/
def iSeq (K : PySem.W.Frag) (te : TE) : TI := fun σ H R => te σ H fun x H1 => ∃ a xs, x = .ref a ∧ ((SqL K H1 a xs ∧ R (Itl K a) H1) ∨ (SqT K H1 a xs ∧ R (Itt K a) H1))
theorem pi_seq {e : Expr} {te : TE} (he : PE X e te) : PI X tg e (iSeq X.K te) := by
  refine ⟨fun pins s σ H R I h => ?_⟩
  refine thn (he.run pins s σ H _ I h) fun v s1 ⟨x, H1, I1, r1, a, xs, ex, q1⟩ => ?_
  subst ex
  cases r1
  have one : ∀ c, c ∈ [s1.heap.objs.size] → FpOk X pins H1 c := fun c hc => by
    have z : c = s1.heap.objs.size := by simpa using hc
    rw [z]
    exact I1.fpOk (Nat.le_refl _) (I1.hok.fresh (Nat.le_refl _))
  rcases q1 with ⟨hq, q⟩ | ⟨hq, q⟩
  · obtain ⟨its, rv, pl, hz⟩ := I1.list hq
    exact wpAny_pyIter_list pl.isList ⟨_, [s1.heap.objs.size], _, _, H1, rfl, I1.kept (t' := s1.toks) fun b o e => Heap.get?_push_of_some _ e, turn_list a _, ⟨_, Heap.get?_push_size _ rfl, rfl, rfl⟩, one, q⟩
  · obtain ⟨its, rv, pl, hz⟩ := I1.tuple hq
    exact wpAny_pyIter_tuple (show s1.heap.IsTuple a its.toArray from pl) ⟨_, [s1.heap.objs.size], _, _, H1, rfl, I1.kept (t' := s1.toks) fun b o e => Heap.get?_push_of_some _ e, turn_tuple a _, ⟨_, Heap.get?_push_size _ rfl, rfl, rfl⟩, one, q⟩
theorem pi_imp {iter : Expr} {wi wi' : TI} (h : PI X tg iter wi) (k : ∀ σ H R, wi' σ H R → wi σ H R) : PI X tg iter wi' := ⟨fun pins s σ H R I hw => h.run pins s σ H R I (k σ H R hw)⟩
end

/-! ### what is walked -/
section
variable {Γ : Gam} {X : Cx} {k : Nat} {tg : Expr}
abbrev IM := Rho → M (List D)
def tDI (Γ : Gam) (m : IM) : TI := fun σ H R => ∃ ρ S F, Fit Γ ρ S F σ H ∧ PostK Γ.G Γ.E F H (m ρ S) fun xs _ F' H' => ∀ J, ItD Γ.G J F' xs → R J H'
abbrev DI (Γ : Gam) (X : Cx) (tg e : Expr) (m : IM) : Prop := PI X tg e (tDI Γ m)
def itemsD : D → Option (List D)
  | .lst xs => some xs
  | .tup xs => some xs
  | .scr ns => some (ns.map D.int)
  | _ => none
def iD (m : EM) : IM := fun ρ => bnd (m ρ) fun x => ofO (itemsD x)
theorem di_seq {e : Expr} {m : EM} (c : Cok Γ X k) (h : DE Γ X e m) : DI Γ X tg e (iD m) := by
  refine pi_imp (pi_seq h) fun σ H R ⟨ρ, S, F, ft, p⟩ => ⟨ρ, S, F, ft, (PostK.bind p).imp fun x S1 F1 H1 g p1 v rx => ?_⟩
  have f1 := ft.step g
  rw [← c.hK]
  cases x <;> try exact p1.elim
  case lst xs =>
    obtain ⟨a, vs, rfl, ha, r⟩ := rx
    exact ⟨a, vs, rfl, .inl ⟨.inl (.inl (f1.le _ _ ha)), p1 F1 H1 f1.refl _ (itD_list ha r)⟩⟩
  case tup xs =>
    obtain ⟨a, vs, rfl, ha, r⟩ := rx
    exact ⟨a, vs, rfl, .inr ⟨same_sqT f1.le ha, p1 F1 H1 f1.refl _ (itD_tup ha r)⟩⟩
  case scr ns =>
    obtain ⟨a, rfl, ha⟩ := rx
    exact ⟨a, _, rfl, .inl ⟨Same.seq f1.le ha, p1 F1 H1 f1.refl _ (itD_scr ha)⟩⟩
def rg62 (i : Int) : Bool := decide (-(2 ^ 62) ≤ i) && decide (i < 2 ^ 62)
def iRg1 (m : EM) : IM := fun ρ => bnd (m ρ) fun x => match x with
  | .int n => if rg62 n = true then ret (rgD 0 n) else bad
  | _ => bad
def iRg2 (m n : EM) : IM := fun ρ => bnd (m ρ) fun x => bnd (n ρ) fun y => match x, y with
  | .int i, .int j => if rg62 i = true ∧ rg62 j = true then ret (rgD i j) else bad
  | _, _ => bad
theorem di_rg1 {a : Expr} {m : EM} {p pos : Pos} (hg : Gl X "range") (hm : X.mg "range" = none) (ha : DE Γ X a m) (hs : starEach [a] X.env = (false, eval a X.env) :: starEach [] X.env := by rfl) : DI Γ X tg (.Call (.Name "range" p) [a] [] pos) (iRg1 m) := by
  refine pi_imp (pi_range1 hg hm (pa_cons ha pa_nil hs) (by rw [hs]; rfl)) fun σ H R ⟨ρ, S, F, ft, p⟩ => ⟨ρ, S, F, ft, (PostK.bind p).imp fun x S1 F1 H1 g p1 v rx => ?_⟩
  have f1 := ft.step g
  cases x with
  | int n =>
    cases rx
    have p2 : PostK Γ.G Γ.E F1 H1 ((if rg62 n = true then ret (rgD 0 n) else bad) S1) _ := p1
    by_cases hz : rg62 n = true
    · rw [if_pos hz] at p2
      have hz' : -(2 ^ 62) ≤ n ∧ n < 2 ^ 62 := by simpa [rg62] using hz
      refine ⟨n, rfl, hz'.1, hz'.2, p2 F1 H1 f1.refl _ ?_⟩
      have e : (n - 0).toNat = n.toNat := by rw [Int.sub_zero]
      unfold rgD
      rw [e]
      exact itD_range
    · rw [if_neg hz] at p2; exact p2.elim
  | _ => exact p1.elim
theorem di_rg2 {a b : Expr} {m n : EM} {p pos : Pos} (hg : Gl X "range") (hm : X.mg "range" = none) (ha : DE Γ X a m) (hb : DE Γ X b n) (hs : starEach [a, b] X.env = (false, eval a X.env) :: starEach [b] X.env := by rfl) (hs2 : starEach [b] X.env = (false, eval b X.env) :: starEach [] X.env := by rfl) :
    DI Γ X tg (.Call (.Name "range" p) [a, b] [] pos) (iRg2 m n) := by
  refine pi_imp (pi_range2 hg hm (pa_cons ha (pa_cons hb pa_nil hs2) hs) (by rw [hs, hs2]; rfl) (by rw [hs2]; rfl)) fun σ H R ⟨ρ, S, F, ft, p⟩ => ⟨ρ, S, F, ft, (PostK.bind p).imp fun x S1 F1 H1 g p1 v rx => ?_⟩
  have f1 := ft.step g
  refine ⟨ρ, S1, F1, f1, (PostK.bind p1).imp fun y S2 F2 H2 g2 p2 w ry => ?_⟩
  have f2 := f1.step g2
  cases x with
  | int i =>
    cases y with
    | int j =>
      cases rx
      cases ry
      have p3 : PostK Γ.G Γ.E F2 H2 ((if rg62 i = true ∧ rg62 j = true then ret (rgD i j) else bad) S2) _ := p2
      by_cases hz : rg62 i = true ∧ rg62 j = true
      · rw [if_pos hz] at p3
        have h1 : -(2 ^ 62) ≤ i ∧ i < 2 ^ 62 := by simpa [rg62] using hz.1
        have h2 : -(2 ^ 62) ≤ j ∧ j < 2 ^ 62 := by simpa [rg62] using hz.2
        exact ⟨i, j, rfl, ⟨h1.1, h1.2, h2.1, h2.2⟩, p3 F2 H2 f2.refl _ itD_range⟩
      · rw [if_neg hz] at p3; exact p3.elim
    | _ => exact p2.elim
  | _ => cases y <;> exact p2.elim
def iEnD (m : EM) : IM := fun ρ => bnd (m ρ) fun x => match x with
  | .lst xs => ret (enumD 0 xs)
  | .tup xs => ret (enumD 0 xs)
  | _ => bad
theorem di_enum {e : Expr} {m : EM} {p pos tpos : Pos} {elts : List Expr} {kk : Nat} (c : Cok Γ X k) (hg : Gl X "enumerate") (hm : X.mg "enumerate" = none) (ha : DE Γ X e m) (hs : starEach [e] X.env = (false, eval e X.env) :: starEach [] X.env := by rfl) :
    DI Γ X (.Tuple elts kk tpos) (.Call (.Name "enumerate" p) [e] [] pos) (iEnD m) := by
  refine pi_imp (pi_enumA hg hm ha hs) fun σ H R ⟨ρ, S, F, ft, p⟩ => ⟨ρ, S, F, ft, (PostK.bind p).imp fun x S1 F1 H1 g p1 v rx => ?_⟩
  have f1 := ft.step g
  rw [← c.hK]
  cases x with
  | lst xs =>
    obtain ⟨a, vs, rfl, ha, r⟩ := rx
    exact ⟨a, vs, rfl, .inl ⟨.inl (.inl (f1.le _ _ ha)), p1 F1 H1 f1.refl _ (itD_enum ha r)⟩⟩
  | tup xs =>
    obtain ⟨a, vs, rfl, ha, r⟩ := rx
    exact ⟨a, vs, rfl, .inr ⟨same_sqT f1.le ha, p1 F1 H1 f1.refl _ (itD_enumT ha r)⟩⟩
  | _ => exact p1.elim
def iZpD (m n : EM) : IM := fun ρ => bnd (m ρ) fun x => bnd (n ρ) fun y => match x, y with
  | .lst xs, .lst ys => ret (zipD xs ys)
  | .tup xs, .tup ys => ret (zipD xs ys)
  | _, _ => bad
theorem di_zip {e e2 : Expr} {m n : EM} {p pos tpos : Pos} {elts : List Expr} {kk : Nat} (c : Cok Γ X k) (hg : Gl X "zip") (hm : X.mg "zip" = none) (ha : DE Γ X e m) (hb : DE Γ X e2 n) (hs : starEach [e, e2] X.env = (false, eval e X.env) :: starEach [e2] X.env := by rfl)
    (hs2 : starEach [e2] X.env = (false, eval e2 X.env) :: starEach [] X.env := by rfl) (hpl : (backTo pos (starEach [e2] X.env)).any (·.1) = false := by rfl) : DI Γ X (.Tuple elts kk tpos) (.Call (.Name "zip" p) [e, e2] [] pos) (iZpD m n) := by
  refine pi_imp (RZ.pi_zipA hg hm (pa_cons ha (pa_cons hb pa_nil hs2) hs) hs hpl) fun σ H R ⟨ρ, S, F, ft, p⟩ => ⟨ρ, S, F, ft, (PostK.bind p).imp fun x S1 F1 H1 g p1 v rx => ?_⟩
  have f1 := ft.step g
  refine ⟨ρ, S1, F1, f1, (PostK.bind p1).imp fun y S2 F2 H2 g2 p2 w ry => ?_⟩
  have f2 := f1.step g2
  rw [← c.hK]
  have rx := rx.mono g2.ext
  cases x with
  | lst xs =>
    cases y with
    | lst ys =>
      obtain ⟨a, vs, rfl, ha, r⟩ := rx
      obtain ⟨b, ws, rfl, hb, r2⟩ := ry
      exact ⟨a, b, vs, ws, rfl, .inl ⟨.inl (.inl (f2.le _ _ ha)), .inl (.inl (f2.le _ _ hb)), p2 F2 H2 f2.refl _ (itD_zip ha r hb r2)⟩⟩
    | _ => exact p2.elim
  | tup xs =>
    cases y with
    | tup ys =>
      obtain ⟨a, vs, rfl, ha, r⟩ := rx
      obtain ⟨b, ws, rfl, hb, r2⟩ := ry
      exact ⟨a, b, vs, ws, rfl, .inr ⟨same_sqT f2.le ha, same_sqT f2.le hb, p2 F2 H2 f2.refl _ (itD_zipT ha r hb r2)⟩⟩
    | _ => exact p2.elim
  | _ => cases y <;> exact p2.elim

/-! ### targets -/
abbrev GM := D → Rho → Option Rho
/-- vs: the slots that may be written -/
def tDG (Γ : Gam) (vs : List Nat) (g : GM) : TG := fun v σ H Q => ∃ ρ S F d ρ', Fit Γ ρ S F σ H ∧ Rep Γ.G F d v ∧ g d ρ = some ρ' ∧ ∀ σ', wipe σ' vs = wipe σ vs → Fit Γ ρ' S F σ' H → Q σ' H
abbrev DG (Γ : Gam) (X : Cx) (vs : List Nat) (tg : Expr) (g : GM) : Prop := PG X tg (tDG Γ vs g)
theorem pg_imp {t t' : TG} (h : PG X tg t) (k : ∀ v σ H Q, t' v σ H Q → t v σ H Q) : PG X tg t' := ⟨fun pins s σ H v u Q I r hw => h.run pins s σ H v u Q I r (k v σ H Q hw)⟩
theorem pgs_imp {es : List Expr} {t t' : TGs} (h : PGs X es t) (k : ∀ v σ H Q, t' v σ H Q → t v σ H Q) : PGs X es t' := ⟨fun pins s σ H v u Q I r hw => h.run pins s σ H v u Q I r (k v σ H Q hw)⟩
def gN (i : Nat) : GM := fun d ρ => some (ρ.set i (.dat d))
theorem wipe_set {σ : L2.St} {i : Nat} {o : Option V} : ∀ {vs : List Nat}, i ∈ vs → wipe (σ.set i o) vs = wipe σ vs
  | v :: vs, h => by
    show (wipe (σ.set i o) vs).set v none = (wipe σ vs).set v none
    by_cases h2 : i ∈ vs
    · rw [wipe_set h2]
    · have e : i = v := (List.mem_cons.mp h).resolve_right h2
      subst e
      have out : ∀ (ws : List Nat), i ∉ ws → wipe (σ.set i o) ws = (wipe σ ws).set i o := by
        intro ws
        induction ws with
        | nil => intro _; rfl
        | cons w ws ih =>
          intro h3
          show (wipe (σ.set i o) ws).set w none = ((wipe σ ws).set w none).set i o
          rw [ih (fun z => h3 (List.mem_cons_of_mem _ z)), List.set_comm _ _ (fun z => h3 (by rw [z]; exact List.Mem.head _))]
      rw [out vs h2, List.set_set]
theorem dg_name {i : Nat} {x : Str} {pos : Pos} {vs : List Nat} (c : Cok Γ X k) (hm : i ∈ vs) (hi : X.N[i]? = some x := by rfl) (hx : Loc X.env.scope x := by first | exact .inl rfl | exact .inr rfl) (hf : X.fn x = true ∨ X.env.scope.names.lookup x = some .local := by first | exact .inl rfl | exact .inr rfl) : DG Γ X vs (.Name x pos) (gN i) := by
  refine pg_imp (pg_name c.nd hi hx hf) fun v σ H Q ⟨ρ, S, F, d, ρ', ft, r, e, q⟩ => ?_
  cases e
  exact q _ (wipe_set hm) (ft.put r)
def tDGs (Γ : Gam) (vs : List Nat) (g : List D → Rho → Option Rho) : TGs := fun ws σ H Q => ∃ ρ S F ds ρ', Fit Γ ρ S F σ H ∧ RepL Γ.G F ds ws ∧ g ds ρ = some ρ' ∧ ∀ σ', wipe σ' vs = wipe σ vs → Fit Γ ρ' S F σ' H → Q σ' H
abbrev DGs (Γ : Gam) (X : Cx) (vs : List Nat) (tgs : List Expr) (g : List D → Rho → Option Rho) : Prop := PGs X tgs (tDGs Γ vs g)
def gE : List D → Rho → Option Rho
  | [], ρ => some ρ
  | _ :: _, _ => none
def gC (g : GM) (gs : List D → Rho → Option Rho) : List D → Rho → Option Rho
  | [], _ => none
  | d :: ds, ρ => (g d ρ).bind (gs ds)
theorem dgs_nil {vs : List Nat} : DGs Γ X vs [] gE := by
  refine pgs_imp pgs_nil fun ws σ H Q ⟨ρ, S, F, ds, ρ', ft, r, e, q⟩ => ?_
  cases ds with
  | nil => cases (show ws = [] from r); cases e; exact ⟨rfl, q σ rfl ft⟩
  | cons _ _ => cases e
theorem dgs_cons {vs : List Nat} {e : Expr} {es : List Expr} {g : GM} {gs : List D → Rho → Option Rho} (h : DG Γ X vs e g) (hs : DGs Γ X vs es gs) (ha : (assignEach (e :: es) X.env).map (·.2) = assign e X.env :: (assignEach es X.env).map (·.2) := by rfl) : DGs Γ X vs (e :: es) (gC g gs) := by
  refine pgs_imp (pgs_cons h hs ha) fun ws σ H Q ⟨ρ, S, F, ds, ρ', ft, r, e, q⟩ => ?_
  cases ds with
  | nil => cases e
  | cons d ds =>
    obtain ⟨w, ws', rfl, r1, r2⟩ := r
    have e' : (g d ρ).bind (gs ds) = some ρ' := e
    cases q1 : g d ρ with
    | none => rw [q1] at e'; cases e'
    | some ρ1 =>
      rw [q1] at e'
      exact ⟨w, ws', rfl, ρ, S, F, d, ρ1, ft, r1, q1, fun σ1 w1 f1 => ⟨ρ1, S, F, ds, ρ', f1, r2, e', fun σ2 w2 f2 => q σ2 (w2.trans w1) f2⟩⟩
def gT (n : Nat) (gs : List D → Rho → Option Rho) : GM := fun d ρ => match d with
  | .tup ds => if ds.length = n then gs ds ρ else none
  | _ => none
theorem dg_tup {vs : List Nat} {es : List Expr} {kk n : Nat} {pos : Pos} {gs : List D → Rho → Option Rho} (c : Cok Γ X k) (h : DGs Γ X vs es gs) (hn : (assignEach es X.env).length = n := by rfl) (hst : (assignEach es X.env).findIdx? (·.1) = none := by rfl) : DG Γ X vs (.Tuple es kk pos) (gT n gs) := by
  refine pg_imp (pg_tup c.calm h hn hst) fun v σ H Q ⟨ρ, S, F, d, ρ', ft, r, e, q⟩ => ?_
  cases d with
  | tup ds =>
    have e' : (if ds.length = n then gs ds ρ else none) = some ρ' := e
    by_cases hl : ds.length = n
    · rw [if_pos hl] at e'
      obtain ⟨a, ws, rfl, ha, rr⟩ := r
      exact ⟨a, ws, rfl, by rw [← c.hK]; exact same_sqT ft.le ha, by rw [← rr.length]; exact hl, ρ, S, F, ds, ρ', ft, rr, e', q⟩
    · rw [if_neg hl] at e'; cases e'
  | _ => cases e
/-- target = e, any target -/
def sSetG (g : GM) (m : EM) : SM := fun ρ => bnd (m ρ) fun d => bnd (ofO (g d ρ)) fun ρ' => ret (.nx ρ')
theorem ds_setG {vs : List Nat} {e : Expr} {g : GM} {m : EM} {pos : Pos} (h : DE Γ X e m) (hg : DG Γ X vs tg g) (hs : swapsWithSole [tg] e pos.line X.env = pure false := by rfl) (hw : swappedStores [tg] e X.env = pure none := by rfl)
    (h1 : (assignEach [tg] X.env).map (·.2) = [assign tg X.env] := by rfl) : DSt Γ X (.Assign [tg] e pos) (sSetG g m) := by
  refine ps_imp (ps_asg h hg hs hw h1) fun Dn σ H ⟨ρ, S, F, ft, p⟩ => ⟨ρ, S, F, ft, (st_bind (f := fun ρ d => bnd (ofO (g d ρ)) fun ρ' => ret (.nx ρ')) ft p).imp fun d S1 F1 H1 _ ⟨f1, _, p1⟩ v rv => ?_⟩
  cases q : g d ρ with
  | none => rw [q] at p1; exact p1.elim
  | some ρ' =>
    rw [q] at p1
    exact ⟨ρ, S1, F1, d, ρ', f1, rv, q, fun σ' _ f2 => p1 F1 σ' H1 (Same.refl F1) f2⟩

/-! ### for -/
def sForL (g : GM) (b : SM) : List D → SM
  | [] => fun ρ => ret (.nx ρ)
  | x :: xs => fun ρ => bnd (ofO (g x ρ)) fun ρ1 => bnd (b ρ1) fun f => match f with
    | .nx ρ2 => sForL g b xs ρ2
    | .ct ρ2 => sForL g b xs ρ2
    | .bk ρ2 => ret (.nx ρ2)
    | .rt d => ret (.rt d)
def sFor (m : IM) (g : GM) (b : SM) : SM := fun ρ => bnd (m ρ) fun xs => sForL g b xs ρ
end
end Dv

/-! Dv6: for, while, list comprehensions. -/
namespace Dv
open PySem PySem.Spec L2
section
variable {Γ : Gam} {X : Cx} {k : Nat} {tg : Expr}
theorem for_post {g : GM} {b : SM} {xs : List D} {ρ : Rho} {S : DS} {F : Hp} {Dn : Ends} {N : L2.St → Hp → Prop} (p : PostS Γ F Dn (bnd (b ρ) (fun f => match f with
    | .nx ρ2 => sForL g b xs ρ2
    | .ct ρ2 => sForL g b xs ρ2
    | .bk ρ2 => ret (.nx ρ2)
    | .rt d => ret (.rt d)) S)) (hN : ∀ σ H, (∃ ρ S F', Same F F' ∧ Fit Γ ρ S F' σ H ∧ PostS Γ F' Dn (sForL g b xs ρ S)) → N σ H) : PostS Γ F { Dn with nx := N, ct := N, bk := Dn.nx } (b ρ S) := by
  unfold bnd at p
  generalize b ρ S = r at p ⊢
  obtain ⟨r, S1⟩ := r
  cases r with
  | ok f =>
    cases f with
    | nx ρ2 => exact fun F' σ H e ft => hN σ H ⟨ρ2, S1, F', e, ft, PostS.mono p e⟩
    | ct ρ2 => exact fun F' σ H e ft => hN σ H ⟨ρ2, S1, F', e, ft, PostS.mono p e⟩
    | bk ρ2 => exact p
    | rt d => exact p
  | exc x => exact p
  | bad => exact p
theorem wipe_get {σ : L2.St} {j : Nat} : ∀ vs : List Nat, (L2.wipe σ vs)[j]? = if j ∈ vs then (σ[j]?).map (fun _ => none) else σ[j]?
  | [] => by simp [L2.wipe]
  | v :: vs => by
    show ((L2.wipe σ vs).set v none)[j]? = _
    by_cases e : v = j
    · subst e
      rw [List.getElem?_set_self', wipe_get vs]
      by_cases h : v ∈ vs
      · rw [if_pos h, if_pos (show v ∈ v :: vs from List.mem_cons_self)]
        cases σ[v]? <;> rfl
      · rw [if_neg h, if_pos (show v ∈ v :: vs from List.mem_cons_self)]
        cases σ[v]? <;> rfl
    · rw [List.getElem?_set_ne e, wipe_get vs]
      have q : (j ∈ v :: vs) = (j ∈ vs) := by simp [Ne.symm e]
      simp only [q]
theorem wipe_idem (σ : L2.St) (vs : List Nat) : L2.wipe (L2.wipe σ vs) vs = L2.wipe σ vs := by
  apply List.ext_getElem?
  intro j
  rw [wipe_get vs, wipe_get vs]
  by_cases h : j ∈ vs
  · rw [if_pos h, if_pos h]
    cases σ[j]? <;> rfl
  · rw [if_neg h, if_neg h]
theorem bnd_assoc {α β γ : Type} {m : M α} {f : α → M β} {g : β → M γ} : bnd (bnd m f) g = bnd m fun a => bnd (f a) g := by
  funext S
  unfold bnd
  cases m S with
  | mk r S1 => cases r <;> rfl
theorem PostK.bind0 {α β : Type} {G : Gh} {E : XK} {F H : Hp} {S : DS} {m : M α} {f : α → M β} {K : β → DS → Hp → Hp → Prop} (h : PostK G E F H (bnd m f S) K) :
    PostK G E F H (m S) fun a S1 _ _ => PostK G E F H (f a S1) K := by
  unfold bnd at h
  generalize m S = r at h ⊢
  obtain ⟨r, S1⟩ := r
  cases r with
  | ok a => exact fun F1 H1 g => h
  | exc x => exact h
  | bad => exact h
theorem drop_cons {α : Type} {xs : List α} {i : Nat} {d : α} (e : xs[i]? = some d) : xs.drop i = d :: xs.drop (i + 1) := by
  obtain ⟨h, e⟩ := List.getElem?_eq_some_iff.mp e
  rw [List.drop_eq_getElem_cons h, e]
theorem ds_for {iter : Expr} {body : List Stmt} {vs : List Nat} {m : IM} {g : GM} {b : SM} {pos : Pos} (c : Cok Γ X k) (hp : PassesOwn (model X.prog X.w) X.A X.env X.xe) (hi : DI Γ X tg iter m) (hg : DG Γ X vs tg g) (hb : DSs Γ X body b)
    (hs : ∀ x, foldedSetIterable iter X.env x = pure x := by intro _; rfl) : DSt Γ X (.For tg iter body [] pos) (sFor m g b) := by
  refine ps_imp (ps_for hp c.calm hi hg hb hs) fun Dn σ H ⟨ρ, S, F, ft, p⟩ => ⟨ρ, S, F, ft, (st_bind (f := fun ρ xs => sForL g b xs ρ) ft p).imp fun xs S1 F1 H1 g1 ⟨f1, _, p1⟩ J hJ => ?_⟩
  refine ⟨fun i n σ H => n = xs.length - i ∧ i ≤ xs.length ∧ ∃ ρ S F, Same F1 F ∧ Fit Γ ρ S F σ H ∧ PostS Γ F Dn (sForL g b (xs.drop i) ρ S), ⟨xs.length, rfl, Nat.zero_le _, ρ, S1, F1, Same.refl F1, f1, p1⟩, ?_⟩
  rintro i n σ2 H2 ⟨rfl, hi, ρ2, S2, F2, e2, f2, p2⟩
  obtain ⟨go, stop⟩ := hJ F2 H2 S2 e2 f2.le f2.st
  by_cases hlt : i < xs.length
  · obtain ⟨gi, yl⟩ := go i hlt
    refine .inr ⟨gi, fun σ' H' => ∃ ρ S F', Same F1 F' ∧ Fit Γ ρ S F' σ' H' ∧ PostS Γ F' Dn (sForL g b (xs.drop (i + 1)) ρ S), fun σ' H' n' => ⟨xs.length - (i + 1), by omega, rfl, hlt, n'⟩, fun x H' y => ?_⟩
    obtain ⟨d, F3, ed, g3, r3⟩ := yl x H' y
    rw [drop_cons ed] at p2
    have p3 : PostS Γ F2 Dn (bnd (ofO (g d ρ2)) (fun ρ1 => bnd (b ρ1) fun f => match f with
      | .nx ρ2 => sForL g b (xs.drop (i + 1)) ρ2
      | .ct ρ2 => sForL g b (xs.drop (i + 1)) ρ2
      | .bk ρ2 => ret (.nx ρ2)
      | .rt d => ret (.rt d)) S2) := p2
    cases q : g d ρ2 with
    | none => rw [q] at p3; exact p3.elim
    | some ρ3 =>
      rw [q] at p3
      refine ⟨ρ2, S2, F3, d, ρ3, f2.step g3, r3, q, fun σ' _ f4 => ⟨ρ3, S2, F3, f4, for_post (PostS.mono p3 g3.ext) fun σ5 H5 h5 => ?_⟩⟩
      obtain ⟨ρ5, S5, F5, e5, f5, p5⟩ := h5
      exact ⟨ρ5, S5, F5, (e2.trans g3.ext).trans e5, f5, p5⟩
  · have e : i = xs.length := by omega
    subst e
    rw [List.drop_length] at p2
    exact .inl ⟨stop, p2 F2 σ2 H2 (Same.refl F2) f2⟩

/-! ### while, so many turns at most -/
def sWh (c : Rho → M Bool) (b : SM) : Nat → SM
  | 0 => fun _ => bad
  | n + 1 => fun ρ => bnd (c ρ) fun t => if t = true then bnd (b ρ) fun f => match f with
    | .nx ρ2 => sWh c b n ρ2
    | .ct ρ2 => sWh c b n ρ2
    | .bk ρ2 => ret (.nx ρ2)
    | .rt d => ret (.rt d) else ret (.nx ρ)
theorem while_post {c : Rho → M Bool} {b : SM} {n : Nat} {ρ : Rho} {S : DS} {F : Hp} {Dn : Ends} {N : L2.St → Hp → Prop} (p : PostS Γ F Dn (bnd (b ρ) (fun f => match f with
    | .nx ρ2 => sWh c b n ρ2
    | .ct ρ2 => sWh c b n ρ2
    | .bk ρ2 => ret (.nx ρ2)
    | .rt d => ret (.rt d)) S)) (hN : ∀ σ H, (∃ ρ S F', Fit Γ ρ S F' σ H ∧ PostS Γ F' Dn (sWh c b n ρ S)) → N σ H) : PostS Γ F { Dn with nx := N, ct := N, bk := Dn.nx } (b ρ S) := by
  unfold bnd at p
  generalize b ρ S = r at p ⊢
  obtain ⟨r, S1⟩ := r
  cases r with
  | ok f =>
    cases f with
    | nx ρ2 => exact fun F' σ H e ft => hN σ H ⟨ρ2, S1, F', ft, PostS.mono p e⟩
    | ct ρ2 => exact fun F' σ H e ft => hN σ H ⟨ρ2, S1, F', ft, PostS.mono p e⟩
    | bk ρ2 => exact p
    | rt d => exact p
  | exc x => exact p
  | bad => exact p
theorem ds_while {c : Expr} {body : List Stmt} {mc : Rho → M Bool} {b : SM} {pos : Pos} (n : Nat) (hp : PassesOwn (model X.prog X.w) X.A X.env X.xe) (hc : DT Γ X c mc) (hb : DSs Γ X body b) : DSt Γ X (.While c body [] pos) (sWh mc b n) := by
  refine ps_imp (ps_while hp hc hb) fun Dn σ H ⟨ρ, S, F, ft, p⟩ => ?_
  refine ⟨fun m σ H => ∃ ρ S F, Fit Γ ρ S F σ H ∧ PostS Γ F Dn (sWh mc b m ρ S), ⟨n, ρ, S, F, ft, p⟩, ?_⟩
  rintro m σ2 H2 ⟨ρ2, S2, F2, f2, p2⟩
  cases m with
  | zero => exact p2.elim
  | succ m =>
    have p3 : PostS Γ F2 Dn (bnd (mc ρ2) (fun t => if t = true then bnd (b ρ2) fun f => match f with
      | .nx ρ2 => sWh mc b m ρ2
      | .ct ρ2 => sWh mc b m ρ2
      | .bk ρ2 => ret (.nx ρ2)
      | .rt d => ret (.rt d) else ret (.nx ρ2)) S2) := p2
    refine ⟨ρ2, S2, F2, f2, (st_bind (f := fun ρ2 t => if t = true then bnd (b ρ2) fun f => match f with
      | .nx ρ2 => sWh mc b m ρ2
      | .ct ρ2 => sWh mc b m ρ2
      | .bk ρ2 => ret (.nx ρ2)
      | .rt d => ret (.rt d) else ret (.nx ρ2)) f2 p3).imp fun t S3 F3 H3 _ ⟨f3, _, p4⟩ => ?_⟩
    cases t with
    | true => exact ⟨fun σ H => ∃ m', m' < m + 1 ∧ ∃ ρ S F, Fit Γ ρ S F σ H ∧ PostS Γ F Dn (sWh mc b m' ρ S), fun σ' H' n => n, ρ2, S3, F3, f3, while_post (N := fun σ H => ∃ m', m' < m + 1 ∧ ∃ ρ S F, Fit Γ ρ S F σ H ∧ PostS Γ F Dn (sWh mc b m' ρ S)) p4 fun σ5 H5 ⟨ρ5, S5, F5, f5, p5⟩ => ⟨m, Nat.lt_succ_self m, ρ5, S5, F5, f5, p5⟩⟩
    | false => exact p4 F3 σ2 H3 (Same.refl F3) f3

/-! ### [elt for target in iter if ..] -/
abbrev Gam.nox (Γ : Gam) : Gam := { Γ with E := fun _ _ _ => False }
def wipeR (ρ : Rho) : List Nat → Rho
  | [] => ρ
  | v :: vs => (wipeR ρ vs).set v .un
theorem Fit.wipe {ρ : Rho} {S : DS} {F H : Hp} {σ : L2.St} (f : Fit Γ ρ S F σ H) : ∀ vs, Fit Γ (wipeR ρ vs) S F (L2.wipe σ vs) H
  | [] => f
  | _ :: vs => (Fit.wipe f vs).unset
theorem Fit.nox {ρ : Rho} {S : DS} {F H : Hp} {σ : L2.St} (f : Fit Γ ρ S F σ H) : Fit Γ.nox ρ S F σ H :=
  ⟨f.go, f.len, let ⟨ow, s⟩ := f.sl; ⟨ow, ⟨fun i t e => let ⟨o, e1, r⟩ := s.at_ i t e; ⟨o, e1, by cases t <;> first | exact r | exact ⟨r.1, ⟨r.2.1.f, r.2.1.h0, r.2.1.st⟩, r.2.2⟩⟩, s.inj⟩⟩⟩
/-- no exception -/
def noX {α : Type} (m : M α) : M α := fun S => match m S with
  | (.ok a, S') => (.ok a, S')
  | (.exc _, S') => (.bad, S')
  | (.bad, S') => (.bad, S')
theorem post_noX {α : Type} {G : Gh} {E E' : XK} {F H : Hp} {m : M α} {S : DS} {K : α → DS → Hp → Hp → Prop} (h : PostK G E F H (noX m S) K) : PostK G E' F H (m S) K := by
  unfold noX at h
  generalize m S = r at h ⊢
  obtain ⟨r, S1⟩ := r
  cases r with
  | ok a => exact h
  | exc x => exact h.elim
  | bad => exact h
/-- an item's turn: none or one item more -/
def lcTurn (g : GM) (t : Rho → M Bool) (m : EM) (ρ : Rho) (d : D) : M (Option D) := bnd (ofO (g d ρ)) fun ρ2 => bnd (noX (t ρ2)) fun b => if b = true then bnd (noX (m ρ2)) fun y => ret (some y) else ret none
def lcGo (f : D → M (Option D)) : List D → List D → M (List D)
  | [], acc => ret acc
  | x :: xs, acc => bnd (f x) fun o => lcGo f xs (acc ++ o.toList)
def mLc (vs : List Nat) (i : IM) (g : GM) (t : Rho → M Bool) (m : EM) : Rho → M (List D) := fun ρ => bnd (i ρ) fun xs => if xs.length < sizeLine then lcGo (lcTurn g t m (wipeR ρ vs)) xs [] else bad
/-- the new list written, or frozen -/
theorem Go.own {G : Gh} {F1 H1 F H : Hp} {S : DS} {q : Addr} {o o' : HO} (g : Go G F1 H1 S F H) (n1 : H1 q = none) (st1 : G.hs = true → ∃ S1, StOK G F1 H1 S1) (hq : H q = some o') (nf : F q = none) : Go G F1 H1 S F (upd H q o) := by
  have ne : ∀ {a : Addr} {u : HO}, F a = some u → a ≠ q := fun h z => by rw [z, nf] at h; cases h
  have n3 : G.hs = true → q ≠ G.pd ∧ q ≠ G.pg ∧ q ≠ G.pc := fun hs => by
    obtain ⟨S1, st⟩ := st1 hs
    refine ⟨fun z => ?_, fun z => ?_, fun z => ?_⟩
    · have q := st.hd; rw [← z, n1] at q; cases q
    · have q := st.hg; rw [← z, n1] at q; cases q
    · have q := st.hc; rw [← z, n1] at q; cases q
  refine ⟨fun a u h => by rw [upd_ne (ne h)]; exact g.le a u h, fun hs => ?_, g.ext, fun a u h n => ?_, g.new, fun a h => ?_⟩
  · have st := g.st hs
    have m := n3 hs
    exact ⟨by rw [upd_ne (Ne.symm m.1)]; exact st.hd, by rw [upd_ne (Ne.symm m.2.1)]; exact st.hg, by rw [upd_ne (Ne.symm m.2.2)]; exact st.hc, st.fd, st.fg, st.fc, st.ne⟩
  · have hne : a ≠ q := fun z => by rw [z, n1] at h; cases h
    rw [upd_ne hne]
    exact g.keep a u h n
  · by_cases z : a = q
    · rw [z]; exact n1
    · rw [upd_ne z] at h; exact g.grow a h
theorem Go.frz {G : Gh} {F1 H1 F H : Hp} {S : DS} {q : Addr} {o : HO} (g : Go G F1 H1 S F H) (n1 : H1 q = none) (st1 : G.hs = true → ∃ S1, StOK G F1 H1 S1) (hq : H q = some o) (nf : F q = none) : Go G F1 H1 S (upd F q o) H := by
  have n3 : G.hs = true → q ≠ G.pd ∧ q ≠ G.pg ∧ q ≠ G.pc := fun hs => by
    obtain ⟨S1, st⟩ := st1 hs
    refine ⟨fun z => ?_, fun z => ?_, fun z => ?_⟩
    · have q := st.hd; rw [← z, n1] at q; cases q
    · have q := st.hg; rw [← z, n1] at q; cases q
    · have q := st.hc; rw [← z, n1] at q; cases q
  refine ⟨fun a u h => ?_, fun hs => ?_, fun a u h => ?_, g.keep, fun a u h => ?_, g.grow⟩
  · by_cases z : a = q
    · rw [z, upd_same] at h; cases h; rw [z]; exact hq
    · rw [upd_ne z] at h; exact g.le a u h
  · have st := g.st hs
    have m := n3 hs
    exact ⟨st.hd, st.hg, st.hc, by rw [upd_ne (Ne.symm m.1)]; exact st.fd, by rw [upd_ne (Ne.symm m.2.1)]; exact st.fg, by rw [upd_ne (Ne.symm m.2.2)]; exact st.fc, st.ne⟩
  · have hne : a ≠ q := fun z => by
      have := g.ext a u h
      rw [z, nf] at this; cases this
    rw [upd_ne hne]; exact g.ext a u h
  · by_cases z : a = q
    · rw [z]; exact .inr n1
    · rw [upd_ne z] at h; exact g.new a u h
/-- another object written: the frame does not see it -/
theorem Fit.other {ρ : Rho} {S : DS} {F H F1 Hb : Hp} {σ : L2.St} {q : Addr} {o : HO} {S1 : DS} (f1 : Fit Γ ρ S1 F1 σ Hb) (n1 : Hb q = none) (f : Fit Γ ρ S F σ H) (nf : F q = none) : Fit Γ ρ S F σ (upd H q o) := by
  have m := f1.fresh n1
  have ne : ∀ {a : Addr} {u : HO}, F a = some u → a ≠ q := fun h z => by rw [z, nf] at h; cases h
  obtain ⟨ow, sl⟩ := f.sl
  have own : ∀ {j : Nat} {s : Sl}, ρ[j]? = some s → s.mine = true → ow j ≠ q := fun {j s} e ms z => by
    obtain ⟨a, o1, e1, e2, _⟩ := f1.slot e ms
    obtain ⟨o2, e3, r⟩ := sl.at_ j s e
    have e4 : o2 = some (.ref (ow j)) := by
      cases s with
      | un => cases ms
      | dat d => cases ms
      | own xs => exact r.1
      | owd ks xs => exact r.1
      | owt ks xs => exact r.1
      | ini c fs => exact r.1
    rw [e1] at e3
    cases e3
    cases e4
    rw [z, n1] at e2
    cases e2
  refine ⟨⟨fun a u h => by rw [upd_ne (ne h)]; exact f.le a u h, fun hs => ?_, f.go.ext, fun a u h n => ?_, f.go.new, fun a h => ?_⟩, f.len, ow, ⟨fun j s e => ?_, sl.inj⟩⟩
  · have st := f.st hs
    have n3 := m.st hs
    exact ⟨by rw [upd_ne (Ne.symm n3.1)]; exact st.hd, by rw [upd_ne (Ne.symm n3.2.1)]; exact st.hg, by rw [upd_ne (Ne.symm n3.2.2)]; exact st.hc, st.fd, st.fg, st.fc, st.ne⟩
  · have hne : a ≠ q := fun z => by rw [z, m.h0] at h; cases h
    rw [upd_ne hne]
    exact f.go.keep a u h n
  · by_cases z : a = q
    · rw [z, upd_same] at h; cases h
    · rw [upd_ne z] at h; exact f.go.grow a h
  · obtain ⟨o2, e3, r⟩ := sl.at_ j s e
    refine ⟨o2, e3, ?_⟩
    cases s with
    | un => trivial
    | dat d => exact r
    | own zs => obtain ⟨e4, m4, vs4, h4, r4⟩ := r; exact ⟨e4, m4, vs4, by rw [upd_ne (own e rfl)]; exact h4, r4⟩
    | owd ks zs => obtain ⟨e4, m4, vs4, h4, r4⟩ := r; exact ⟨e4, m4, vs4, by rw [upd_ne (own e rfl)]; exact h4, r4⟩
    | owt ks zs => obtain ⟨e4, m4, vs4, h4, r4⟩ := r; exact ⟨e4, m4, vs4, by rw [upd_ne (own e rfl)]; exact h4, r4⟩
    | ini c zs => obtain ⟨e4, m4, vs4, ⟨dx, h4⟩, r4⟩ := r; exact ⟨e4, m4, vs4, ⟨dx, by rw [upd_ne (own e rfl)]; exact h4⟩, r4⟩
/-- the loop of the block -/
theorem lc_loop {vs : List Nat} {g : GM} {t : Rho → M Bool} {m : EM} {xs : List D} {ρ : Rho} {σ : L2.St} {S1 : DS} {F1 H1 : Hp} {J : It} {q : Addr} {K : List D → DS → Hp → Hp → Prop} {Qd : Hp → Prop}
    (f1 : Fit Γ ρ S1 F1 σ H1) (hJ : ItD Γ.G J F1 xs) (hz : xs.length < sizeLine) (nq : H1 q = none) (p : PostK Γ.G Γ.E F1 H1 (lcGo (lcTurn g t m (wipeR ρ vs)) xs [] S1) K)
    (hd : ∀ acc ws S F H, Go Γ.G F1 H1 S F H → H q = some (.lst ws) → F q = none → RepL Γ.G F acc ws → PostK Γ.G Γ.E F H (ret acc S) K → Qd H) :
    ∃ W : Nat → Nat → Hp → Prop, (∃ m, W 0 m (upd H1 q (.lst []))) ∧ ∀ i n H, W i n H →
      (J.stop i H ∧ Qd H) ∨ (J.go i H ∧ ∃ Nx : Hp → Prop, (∀ H', Nx H' → ∃ n', n' < n ∧ W (i + 1) n' H') ∧ ∀ x H', J.yld i H x H' → tDG Γ.nox vs g x (L2.wipe σ vs) H' fun σ2 H2 => L2.wipe σ2 vs = L2.wipe σ vs ∧ tDT Γ.nox t σ2 H2 fun b H3 =>
        if b = true then tD Γ.nox m σ2 H3 fun y H4 => ∃ acc, H4 q = some (.lst acc) ∧ acc.length < sizeLine ∧ Nx (upd H4 q (.lst (acc ++ [y]))) else Nx H3) := by
  have st1 : Γ.G.hs = true → ∃ S, StOK Γ.G F1 H1 S := fun hs => ⟨S1, f1.st hs⟩
  have nf1 : F1 q = none := (f1.fresh nq).f
  let Pv : Nat → Hp → Prop := fun i H => ∃ S F acc ws, Go Γ.G F1 H1 S F H ∧ Fit Γ (wipeR ρ vs) S F (L2.wipe σ vs) H ∧ H q = some (.lst ws) ∧ F q = none ∧ RepL Γ.G F acc ws ∧ acc.length ≤ i ∧ PostK Γ.G Γ.E F1 H1 (lcGo (lcTurn g t m (wipeR ρ vs)) (xs.drop i) acc S) K
  have g0 := Go.allocH (o := .lst []) f1.le f1.st nq
  have nst : Γ.G.hs = true → q ≠ Γ.G.pd ∧ q ≠ Γ.G.pg := fun hs => by
    have m := (f1.fresh nq).st hs
    exact ⟨m.1, m.2.1⟩
  refine ⟨fun i n H => n = xs.length - i ∧ i ≤ xs.length ∧ Pv i H, ⟨xs.length, rfl, Nat.zero_le _, S1, F1, [], [], g0, (f1.step g0).wipe vs, upd_same, nf1, .nil, Nat.le_refl _, p⟩, ?_⟩
  rintro i n H ⟨rfl, hi, S, F, acc, ws, gg, fw, hq, nf, rr, la, pp⟩
  obtain ⟨go, stop⟩ := hJ F H S gg.ext gg.le gg.st
  by_cases hlt : i < xs.length
  · obtain ⟨gi, yl⟩ := go i hlt
    refine .inr ⟨gi, Pv (i + 1), fun H' p' => ⟨xs.length - (i + 1), by omega, rfl, hlt, p'⟩, fun x H' y => ?_⟩
    obtain ⟨d, F2, ed, g2, r2⟩ := yl x H' y
    rw [drop_cons ed] at pp
    have pp1 : PostK Γ.G Γ.E F1 H1 (bnd (bnd (ofO (g d (wipeR ρ vs))) fun ρ2 => bnd (noX (t ρ2)) fun b => if b = true then bnd (noX (m ρ2)) fun y => ret (some y) else ret none) (fun o => lcGo (lcTurn g t m (wipeR ρ vs)) (xs.drop (i + 1)) (acc ++ o.toList)) S) K := pp
    have f2 := fw.step g2
    have hq2 : H' q = some (.lst ws) := g2.keep q _ hq nst
    have nf2 := g2.nof nf hq
    cases e : g d (wipeR ρ vs) with
    | none => rw [e] at pp1; exact pp1.elim
    | some ρ3 =>
      rw [e] at pp1
      have pp2 : PostK Γ.G Γ.E F1 H1 (bnd (bnd (noX (t ρ3)) fun b => if b = true then bnd (noX (m ρ3)) fun y => ret (some y) else ret none) (fun o => lcGo (lcTurn g t m (wipeR ρ vs)) (xs.drop (i + 1)) (acc ++ o.toList)) S) K := pp1
      rw [bnd_assoc] at pp2
      have q3 := (PostK.bind0 pp2).go (gg.trans g2)
      refine ⟨wipeR ρ vs, S, F2, d, ρ3, f2.nox, r2, e, fun σ3 w3 f3 => ⟨by rw [w3]; exact wipe_idem _ _, ρ3, S, F2, f3, post_noX (E := Γ.E) (q3.imp fun b S4 F4 H4 g4 p4 => ?_)⟩⟩
      have f4 := f2.step g4
      have hq4 : H4 q = some (.lst ws) := g4.keep q _ hq2 nst
      have nf4 := g4.nof nf2 hq2
      have r4 := rr.mono (g2.ext.trans g4.ext)
      have G4 := (gg.trans g2).trans g4
      cases b with
      | false =>
        have p5 : PostK Γ.G Γ.E F1 H1 (lcGo (lcTurn g t m (wipeR ρ vs)) (xs.drop (i + 1)) (acc ++ []) S4) K := p4
        rw [List.append_nil] at p5
        exact ⟨S4, F4, acc, ws, G4, f4, hq4, nf4, r4, by omega, p5⟩
      | true =>
        have p4' : PostK Γ.G Γ.E F1 H1 (bnd (bnd (noX (m ρ3)) fun y => ret (some y)) (fun o => lcGo (lcTurn g t m (wipeR ρ vs)) (xs.drop (i + 1)) (acc ++ o.toList)) S4) K := p4
        rw [bnd_assoc] at p4'
        refine ⟨ρ3, S4, F4, f3.step g4, post_noX (E := Γ.E) (((PostK.bind0 p4').go G4).imp fun y S5 F5 H5 g5 p5 v rv => ?_)⟩
        have hq5 : H5 q = some (.lst ws) := g5.keep q _ hq4 nst
        have nf5 := g5.nof nf4 hq4
        have f5 := f4.step g5
        have r5 := r4.mono g5.ext
        have p6 : PostK Γ.G Γ.E F1 H1 (lcGo (lcTurn g t m (wipeR ρ vs)) (xs.drop (i + 1)) (acc ++ [y]) S5) K := p5
        exact ⟨ws, hq5, by rw [← r5.length]; omega, S5, F5, acc ++ [y], ws ++ [v], (G4.trans g5).own (o := .lst (ws ++ [v])) nq st1 hq5 nf5, Fit.other (f1.wipe vs) nq f5 nf5, upd_same, nf5, r5.append (.cons rv .nil), by simp; omega, p6⟩
  · have e : i = xs.length := by omega
    subst e
    rw [List.drop_length] at pp
    exact .inl ⟨stop, hd acc ws S F H gg hq nf rr (pp.go gg)⟩
theorem pts_imp {es : List Expr} {t t' : TT} (h : PTs X es t) (k : ∀ σ H Q, t' σ H Q → t σ H Q) : PTs X es t' := ⟨fun pins s σ H Q I hw => h.run pins s σ H Q I (k σ H Q hw)⟩
abbrev DTs (Γ : Gam) (X : Cx) (es : List Expr) (m : Rho → M Bool) : Prop := PTs X es (tDT Γ m)
def mYes : Rho → M Bool := fun _ => ret true
theorem dts_nil : DTs Γ X [] mYes := pts_imp pts_nil fun σ H Q ⟨ρ, S, F, ft, p⟩ => p F H ft.refl
theorem dts_one {c : Expr} {m : Rho → M Bool} (h : DT Γ X c m) : DTs Γ X [c] m := pts_one h
def eLc (vs : List Nat) (i : IM) (g : GM) (t : Rho → M Bool) (m : EM) : EM := fun ρ => bnd (mLc vs i g t m ρ) fun ys => ret (.lst ys)
def zLc (vs : List Nat) (i : IM) (g : GM) (t : Rho → M Bool) (m : EM) : ZM := fun ρ => bnd (mLc vs i g t m ρ) fun ys => ret (.own ys)
section
variable {elt iter : Expr} {ifs : List Expr} {scope : Scope} {own : List (Str × Nat)} {pos : Pos} {i : IM} {g : GM} {t : Rho → M Bool} {m : EM}
theorem lc_imp {vs : List Nat} {σ : L2.St} {H : Hp} {Q : VK} (h : tD Γ (eLc vs i g t m) σ H Q) : tLc (tDI Γ i) (tDG Γ.nox vs g) (tDT Γ.nox t) (tD Γ.nox m) vs σ H Q := by
  obtain ⟨ρ, S, F, ft, p⟩ := h
  have p1 : Post Γ.G Γ.E F H (bnd (bnd (i ρ) fun xs => if xs.length < sizeLine then lcGo (lcTurn g t m (wipeR ρ vs)) xs [] else bad) (fun ys => ret (.lst ys)) S) Q := p
  rw [bnd_assoc] at p1
  refine ⟨ρ, S, F, ft, (PostK.bind p1).imp fun xs S1 F1 H1 g1 p2 J hJ q nq => ?_⟩
  have f1 := ft.step g1
  by_cases hz : xs.length < sizeLine
  · rw [if_pos hz] at p2
    refine lc_loop f1 hJ hz nq (PostK.bind0 p2) fun acc ws S2 F2 H2 g2 hq nf rr pp => ?_
    have st1 : Γ.G.hs = true → ∃ S, StOK Γ.G F1 H1 S := fun hs => ⟨S1, f1.st hs⟩
    have g3 := g2.frz nq st1 hq nf
    have z := pp F2 H2 (Go.refl g2.le g2.st)
    exact z _ _ g3 _ ⟨q, ws, rfl, upd_same, rr.mono (fun a o e => by rw [upd_ne (ne_of_none e nf)]; exact e)⟩
  · rw [if_neg hz] at p2; exact p2.elim
theorem lcZ_imp {vs : List Nat} {σ : L2.St} {H : Hp} {Q : VK} (h : tDZ Γ (zLc vs i g t m) σ H Q) : tLc (tDI Γ i) (tDG Γ.nox vs g) (tDT Γ.nox t) (tD Γ.nox m) vs σ H Q := by
  obtain ⟨ρ, S, F, ft, p⟩ := h
  have p1 : PostK Γ.G Γ.E F H (bnd (bnd (i ρ) fun xs => if xs.length < sizeLine then lcGo (lcTurn g t m (wipeR ρ vs)) xs [] else bad) (fun ys => ret (.own ys)) S) fun s _ F' H' => ∀ v, NewS Γ H F' H' s v → Q v H' := p
  rw [bnd_assoc] at p1
  refine ⟨ρ, S, F, ft, (PostK.bind p1).imp fun xs S1 F1 H1 g1 p2 J hJ q nq => ?_⟩
  have f1 := ft.step g1
  by_cases hz : xs.length < sizeLine
  · rw [if_pos hz] at p2
    refine lc_loop f1 hJ hz nq (PostK.bind0 p2) fun acc ws S2 F2 H2 g2 hq nf rr pp => ?_
    have z := pp F2 H2 (Go.refl g2.le g2.st)
    have fr := f1.fresh nq
    exact z F2 H2 g2 _ ⟨q, ⟨rfl, ⟨nf, fr.h0, fr.st⟩, ws, hq, rr⟩, fun _ => ⟨rfl, g1.grow q nq⟩⟩
  · rw [if_neg hz] at p2; exact p2.elim
theorem de_lc (c : Cok Γ X k) (hi : DI Γ X tg iter i) (ok : BlkOk X.N X.env.scope scope own) (hg : ∀ (s : Shared) (H : Hp) (C : Addr) (cl : List (Str × Addr)) (fp : List Addr), DG Γ.nox (X.blk s H scope (compEnvC scope cl C X.env) fp) (own.map (·.2)) tg g)
    (ht : ∀ (s : Shared) (H : Hp) (C : Addr) (cl : List (Str × Addr)) (fp : List Addr), DTs Γ.nox (X.blk s H scope (compEnvC scope cl C X.env) fp) ifs t) (he : ∀ (s : Shared) (H : Hp) (C : Addr) (cl : List (Str × Addr)) (fp : List Addr), DE Γ.nox (X.blk s H scope (compEnvC scope cl C X.env) fp) elt m)
    (hs : ∀ x, foldedSetIterable iter X.env x = pure x := by intro _; rfl) : DE Γ X (.ListComp elt [⟨tg, iter, ifs, 0⟩] scope pos) (eLc (own.map (·.2)) i g t m) :=
  pe_imp (pe_lc c.calm c.nd hi ok hg ht he hs) fun _ _ _ => lc_imp
theorem dz_lc (c : Cok Γ X k) (hi : DI Γ X tg iter i) (ok : BlkOk X.N X.env.scope scope own) (hg : ∀ (s : Shared) (H : Hp) (C : Addr) (cl : List (Str × Addr)) (fp : List Addr), DG Γ.nox (X.blk s H scope (compEnvC scope cl C X.env) fp) (own.map (·.2)) tg g)
    (ht : ∀ (s : Shared) (H : Hp) (C : Addr) (cl : List (Str × Addr)) (fp : List Addr), DTs Γ.nox (X.blk s H scope (compEnvC scope cl C X.env) fp) ifs t) (he : ∀ (s : Shared) (H : Hp) (C : Addr) (cl : List (Str × Addr)) (fp : List Addr), DE Γ.nox (X.blk s H scope (compEnvC scope cl C X.env) fp) elt m)
    (hs : ∀ x, foldedSetIterable iter X.env x = pure x := by intro _; rfl) : DZ Γ X (.ListComp elt [⟨tg, iter, ifs, 0⟩] scope pos) (zLc (own.map (·.2)) i g t m) :=
  pe_imp (pe_lc c.calm c.nd hi ok hg ht he hs) fun _ _ _ => lcZ_imp
/-- name = [..] on one line, the name a local -/
theorem ds_setLc {n : Nat} {y : Str} {py spos : Pos} (c : Cok Γ X k) (hy : X.N[n]? = some y) (hyl : X.env.scope.names.lookup y = some .local) (hsw : swapsWith (.ListComp elt [⟨tg, iter, ifs, 0⟩] scope pos) (some (.Name y py)) spos.line X.env = pure true) (hi : DI Γ X tg iter i) (ok : BlkOk X.N X.env.scope scope own) (hg : ∀ (s : Shared) (H : Hp) (C : Addr) (cl : List (Str × Addr)) (fp : List Addr), DG Γ.nox (X.blk s H scope (compEnvC scope cl C X.env) fp) (own.map (·.2)) tg g)
    (ht : ∀ (s : Shared) (H : Hp) (C : Addr) (cl : List (Str × Addr)) (fp : List Addr), DTs Γ.nox (X.blk s H scope (compEnvC scope cl C X.env) fp) ifs t) (he : ∀ (s : Shared) (H : Hp) (C : Addr) (cl : List (Str × Addr)) (fp : List Addr), DE Γ.nox (X.blk s H scope (compEnvC scope cl C X.env) fp) elt m)
    (hs : ∀ x, foldedSetIterable iter X.env x = pure x := by intro _; rfl) :
    DSt Γ X (.Assign [.Name y py] (.ListComp elt [⟨tg, iter, ifs, 0⟩] scope pos) spos) (sSet n (eLc (own.map (·.2)) i g t m)) :=
  ps_imp (ps_setLc c.calm c.nd hy hyl hsw hi ok hg ht he hs) fun Dn σ H ⟨ρ, S, F, ft, p⟩ => lc_imp ⟨ρ, S, F, ft, (st_bind (f := fun ρ d => ret (.nx (ρ.set n (.dat d)))) ft p).imp fun d S1 F1 H1 g ⟨f1, _, p1⟩ v rv => p1 F1 _ H1 (Same.refl F1) (f1.put rv)⟩
theorem ds_setLcZ {n : Nat} {y : Str} {py spos : Pos} (c : Cok Γ X k) (hy : X.N[n]? = some y) (hyl : X.env.scope.names.lookup y = some .local) (hsw : swapsWith (.ListComp elt [⟨tg, iter, ifs, 0⟩] scope pos) (some (.Name y py)) spos.line X.env = pure true) (hi : DI Γ X tg iter i) (ok : BlkOk X.N X.env.scope scope own) (hg : ∀ (s : Shared) (H : Hp) (C : Addr) (cl : List (Str × Addr)) (fp : List Addr), DG Γ.nox (X.blk s H scope (compEnvC scope cl C X.env) fp) (own.map (·.2)) tg g)
    (ht : ∀ (s : Shared) (H : Hp) (C : Addr) (cl : List (Str × Addr)) (fp : List Addr), DTs Γ.nox (X.blk s H scope (compEnvC scope cl C X.env) fp) ifs t) (he : ∀ (s : Shared) (H : Hp) (C : Addr) (cl : List (Str × Addr)) (fp : List Addr), DE Γ.nox (X.blk s H scope (compEnvC scope cl C X.env) fp) elt m)
    (hs : ∀ x, foldedSetIterable iter X.env x = pure x := by intro _; rfl) :
    DSt Γ X (.Assign [.Name y py] (.ListComp elt [⟨tg, iter, ifs, 0⟩] scope pos) spos) (sSetZ n (zLc (own.map (·.2)) i g t m)) :=
  ps_imp (ps_setLc c.calm c.nd hy hyl hsw hi ok hg ht he hs) fun Dn σ H ⟨ρ, S, F, ft, p⟩ => lcZ_imp ⟨ρ, S, F, ft, (st_bind (f := fun ρ d => ret (.nx (ρ.set n d))) ft p).imp fun d S1 F1 H1 g ⟨f1, _, p1⟩ v rv => p1 F1 _ H1 (Same.refl F1) (ft.putS f1 rv)⟩
end
/-- the context of a block -/
theorem Cok.blk (c : Cok Γ X k) (s : Shared) (H : Hp) (scope : Scope) (cenv : Env) (fp : List Addr) : Cok Γ.nox (X.blk s H scope cenv fp) k := ⟨c.calm, c.nd, c.hr, passL, c.hK⟩
end
end Dv

/-! Dv7: defs, calls, classes. -/
namespace Dv
open PySem PySem.Spec L2

/-- a def's promise: it answers as fn says -/
def spD (G : Gh) (fn : List D → M D) : Sp := fun vs H Q E => ∃ ds F S, RepL G F ds vs ∧ Same F H ∧ (G.hs = true → StOK G F H S) ∧ Post G E F H (fn ds S) Q
/-- an __init__'s promise: the attributes in their sequence -/
def spI (G : Gh) (ci : Nat) (fn : List D → M (List D)) : Sp := fun vs H Q E => ∃ x dx ds F S H1 ws, vs = .ref x :: ws ∧ H1 x = none ∧ H1 dx = none ∧ dx ≠ x ∧ H = upd (upd H1 dx (.own x)) x (.ins (G.cls ci) dx []) ∧ RepL G F ds ws ∧ Same F H1 ∧ (G.hs = true → StOK G F H1 S) ∧
  PostK G E F H1 (fn ds S) fun fs _ F' H' => Rep G F' (.obj ci fs) (.ref x) → Q .non H'
def endD (f : Fl) : M D := match f with
  | .rt d => ret d
  | .nx _ => ret .non
  | _ => bad
def dn (n N : Nat) (b : SM) : List D → M D := fun ds => if ds.length = n then bnd (b (ds.map Sl.dat ++ List.replicate (N - n) Sl.un)) endD else bad
def endI (f : Fl) : M (List D) := match f with
  | .nx ρ => (match (ρ[(0 : Nat)]? : Option Sl) with
    | some (.ini _ fs) => ret fs
    | _ => bad)
  | _ => bad
/-- N counts self, n the arguments behind it -/
def dnI (ci n N : Nat) (b : SM) : List D → M (List D) := fun ds => if ds.length = n then bnd (b (.ini ci [] :: (ds.map Sl.dat ++ List.replicate (N - (n + 1)) Sl.un))) endI else bad
theorem start_sls {Γ : Gam} {F H : Hp} {ds : List D} {vs : List V} (r : RepL Γ.G F ds vs) (m : Nat) : ∀ (i : Nat) (s : Sl), (ds.map Sl.dat ++ List.replicate m Sl.un)[i]? = some s → s.mine = false ∧ ∃ o, (vs.map some ++ List.replicate m (none : Option V))[i]? = some o ∧ SlR Γ F H 0 s o := by
  intro i s e
  by_cases h : i < ds.length
  · rw [List.getElem?_append_left (by simpa using h), List.getElem?_map] at e
    rw [List.getElem?_append_left (by rw [List.length_map, ← r.length]; exact h), List.getElem?_map]
    have q : ds[i]? = some ds[i] := List.getElem?_eq_getElem h
    rw [q] at e
    cases e
    obtain ⟨v, e1, r1⟩ := r.get q
    exact ⟨rfl, some v, by rw [e1]; rfl, v, rfl, r1⟩
  · rw [List.getElem?_append_right (by simpa using h)] at e
    rw [List.getElem?_append_right (by rw [List.length_map, ← r.length]; omega)]
    obtain ⟨hl, e⟩ := List.getElem?_eq_some_iff.mp e
    rw [List.getElem_replicate] at e
    subst e
    refine ⟨rfl, none, ?_, trivial⟩
    rw [List.length_map] at hl ⊢
    rw [List.getElem?_eq_getElem (by simpa [r.length] using hl)]
    simp
theorem fit_start {Γ : Gam} {F H : Hp} {S : DS} {N : List Str} {ds : List D} {vs : List V} (go : Go Γ.G Γ.F0 Γ.H0 S F H) (r : RepL Γ.G F ds vs) (hl : ds.length ≤ N.length) : Fit Γ (ds.map Sl.dat ++ List.replicate (N.length - ds.length) Sl.un) S F (L2.start N vs) H := by
  have e : L2.start N vs = vs.map some ++ List.replicate (N.length - ds.length) none := by unfold L2.start; rw [r.length]
  rw [e]
  have st := start_sls (H := H) r (N.length - ds.length)
  exact ⟨go, by simp [r.length], fun _ => 0, fun i s q => (st i s q).2, fun i j s t q1 q2 m1 m2 => by rw [(st i s q1).1] at m1; cases m1⟩
theorem len_spD {G : Gh} {n N : Nat} {b : SM} (vs : List V) (H : Hp) (Q : VK) (E : XK) (h : spD G (dn n N b) vs H Q E) : vs.length = n := by
  obtain ⟨ds, F, S, r, le, st, p⟩ := h
  unfold dn at p
  by_cases e : ds.length = n
  · rw [← r.length]; exact e
  · rw [if_neg e] at p; exact p.elim
theorem len_spI {G : Gh} {ci n N : Nat} {b : SM} (vs : List V) (H : Hp) (Q : VK) (E : XK) (h : spI G ci (dnI ci n N b) vs H Q E) : vs.length = n + 1 := by
  obtain ⟨x, dx, ds, F, S, H1, ws, rfl, h1, h2, h3, h4, r, le, st, p⟩ := h
  unfold dnI at p
  by_cases e : ds.length = n
  · rw [List.length_cons, ← r.length]; omega
  · rw [if_neg e] at p; exact p.elim
section
variable {P : Program} {w : World} {K : PySem.W.Frag} {mg : Str → Option Value} {base : Heap} {x qual : Str} {params : Arguments} {body : List Stmt} {scope : Scope} {f : Addr} {fd : FuncData} {dvs : List V} {kws : List (Str × V)}
/-- the context of a def's body -/
abbrev cxD (P : Program) (w : World) (K : PySem.W.Frag) (mg : Str → Option Value) (base : Heap) (N : List Str) (qual : Str) (scope : Scope) (f : Addr) (cdv : Value) (A : Around) (outer : List Env) (s : Shared) (H : Hp) (E : XK) : Cx := cxOf (L2.CX P w) P w K mg base N qual scope f cdv A outer s H E
theorem cok_def {G : Gh} {F0 H0 : Hp} {slf : Addr} {N : List Str} {k : Nat} {cdv : Value} {A : Around} {outer : List Env} {s : Shared} {H : Hp} {E : XK} (nd : N.Nodup) (hK : G.K = K) (hr : Room k (A.deeper (PyProof.Rows.envOfC qual scope s.heap.objs.size f cdv))) :
    Cok ⟨G, F0, H0, E, slf⟩ (cxD P w K mg base N qual scope f cdv A outer s H E) k :=
  ⟨rfl, nd, hr, passes_call (takes_of (X := cxD P w K mg base N qual scope f cdv A outer s H E) rfl rfl rfl rfl) (fun _ _ _ _ h => h), hK⟩
theorem owns_def {N : List Str} {cdv : Value} {A : Around} {outer : List Env} {s : Shared} {H : Hp} {E : XK} : PassesOwn (model (cxD P w K mg base N qual scope f cdv A outer s H E).prog (cxD P w K mg base N qual scope f cdv A outer s H E).w) (cxD P w K mg base N qual scope f cdv A outer s H E).A
    (cxD P w K mg base N qual scope f cdv A outer s H E).env (cxD P w K mg base N qual scope f cdv A outer s H E).xe := passes_of (X := cxD P w K mg base N qual scope f cdv A outer s H E) rfl
theorem post_end {Γ : Gam} {F : Hp} {H : Hp} {r : Rs Fl × DS} {S0 : DS} {b : SM} {ρ : Rho} {Q : VK} (hf : Γ.F0 = F) (hH : Γ.H0 = H) (p : Post Γ.G Γ.E F H (bnd (b ρ) endD S0) Q) : PostS Γ F { nx := fun _ H' => Q .non H', rt := Q } (b ρ S0) := by
  subst hf hH
  unfold bnd at p
  generalize b ρ S0 = r at p ⊢
  obtain ⟨r, S⟩ := r
  cases r with
  | ok fl =>
    cases fl with
    | nx ρ' => exact fun F' σ H e ft => p F' H ft.go .non rfl
    | rt d => exact fun F' H v g rv => p F' H g v rv
    | bk ρ' => exact p.elim
    | ct ρ' => exact p.elim
  | exc x => exact fun cls dd F' H g rx => p cls dd F' H g rx
  | bad => exact p
/-- THE RULE for a def -/
theorem def_ok {G : Gh} {N ps : List Str} {k : Nat} {b : SM} (D : FunD K x qual params body scope dvs kws f fd) (Sc : FnScope N ps scope) (hK : G.K = K) (hl : ps.length ≤ N.length)
    (hb : ∀ (cdv : Value) (A : Around) (outer : List Env) (s : Shared) (F H : Hp) (E : XK), Cok ⟨G, F, H, E, 0⟩ (cxD P w K mg base N qual scope f cdv A outer s H E) k → DSs ⟨G, F, H, E, 0⟩ (cxD P w K mg base N qual scope f cdv A outer s H E) body b) :
    FnOk P w K mg base (L2.CX P w) (k + 1) f fd ps (spD G (dn ps.length N.length b)) := by
  refine D.ok Sc (fun vs H Q E h => len_spD vs H Q E h) fun cdv A outer s H vs Q E hr h => ?_
  obtain ⟨ds, F, S, r, le, st, p⟩ := h
  unfold dn at p
  by_cases e : ds.length = ps.length
  · rw [if_pos e] at p
    refine ⟨_, hb cdv A outer s F H E (cok_def Sc.nd hK hr), ds.map Sl.dat ++ List.replicate (N.length - ps.length) Sl.un, S, F, ?_, post_end (Γ := ⟨G, F, H, E, 0⟩) (r := b (ds.map Sl.dat ++ List.replicate (N.length - ps.length) Sl.un) S) rfl rfl p⟩
    rw [← e]
    exact fit_start (Γ := ⟨G, F, H, E, 0⟩) (Go.refl le st) r (by rw [e]; exact hl)
  · rw [if_neg e] at p; exact p.elim
/-- THE RULE for an __init__ -/
theorem init_ok {G : Gh} {N ps : List Str} {k ci : Nat} {b : SM} (D : FunD K x qual params body scope dvs kws f fd) (Sc : FnScope N ("self" :: ps) scope) (hK : G.K = K) (hl : ps.length + 1 ≤ N.length)
    (hb : ∀ (cdv : Value) (A : Around) (outer : List Env) (s : Shared) (F H H1 : Hp) (E : XK) (slf : Addr), Cok ⟨G, F, H1, E, slf⟩ (cxD P w K mg base N qual scope f cdv A outer s H E) k → DSs ⟨G, F, H1, E, slf⟩ (cxD P w K mg base N qual scope f cdv A outer s H E) body b)
    (hfull : ∀ ρ S ρ' S', b ρ S = (.ok (.nx ρ'), S') → ∀ c fs, ρ'[0]? = some (.ini c fs) → c = ci ∧ fs.length = (G.fld ci).length) :
    FnOk P w K mg base (L2.CX P w) (k + 1) f fd ("self" :: ps) (spI G ci (dnI ci ps.length N.length b)) := by
  refine D.ok Sc (fun vs H Q E h => len_spI vs H Q E h) fun cdv A outer s H vs Q E hr h => ?_
  obtain ⟨x, dx, ds, F, S, H1, ws, rfl, hx, hdx, hne, rfl, r, le, st, p⟩ := h
  unfold dnI at p
  by_cases e : ds.length = ps.length
  · rw [if_pos e] at p
    have hdx2 : (upd H1 dx (.own x)) x = none := by rw [upd_ne (Ne.symm hne)]; exact hx
    have g1 := Go.allocH (o := .own x) le st hdx
    have g2 := Go.allocH (o := .ins (G.cls ci) dx []) g1.le g1.st hdx2
    have go := g1.trans g2
    refine ⟨_, hb cdv A outer s F _ H1 E x (cok_def Sc.nd hK hr), .ini ci [] :: (ds.map Sl.dat ++ List.replicate (N.length - (ps.length + 1)) Sl.un), S, F, ?_, ?_⟩
    · have e1 : L2.start N (.ref x :: ws) = some (.ref x) :: (ws.map some ++ List.replicate (N.length - (ps.length + 1)) none) := by
        unfold L2.start
        rw [List.length_cons, ← r.length, e]
        rfl
      rw [e1]
      have ss := start_sls (Γ := ⟨G, F, H1, E, x⟩) (H := upd (upd H1 dx (.own x)) x (.ins (G.cls ci) dx [])) r (N.length - (ps.length + 1))
      refine ⟨go, by simp [r.length], fun i => if i = 0 then x else 0, fun i t q => ?_, fun i j t u q1 q2 m1 m2 => ?_⟩
      · cases i with
        | zero =>
          cases q
          refine ⟨_, rfl, rfl, ⟨?_, hx, fun hs => ?_⟩, [], ⟨dx, ?_⟩, ⟨rfl, Nat.zero_le _⟩, .nil⟩
          · cases z : F x with
            | none => exact z
            | some u => rw [le x u z] at hx; cases hx
          · have s1 := st hs
            refine ⟨fun z => ?_, fun z => ?_, fun z => ?_⟩
            · have q := s1.hd; rw [← (show x = G.pd from z), hx] at q; cases q
            · have q := s1.hg; rw [← (show x = G.pg from z), hx] at q; cases q
            · have q := s1.hc; rw [← (show x = G.pc from z), hx] at q; cases q
          · show upd (upd H1 dx (.own x)) x (.ins (G.cls ci) dx []) x = _
            rw [upd_same]
            simp
        | succ i => exact (ss i t q).2
      · have zero : ∀ {i : Nat} {t : Sl}, ((Sl.ini ci [] :: (ds.map Sl.dat ++ List.replicate (N.length - (ps.length + 1)) Sl.un)) : List Sl)[i]? = some t → t.mine = true → i = 0 := fun {i t} q m => by
          cases i with
          | zero => rfl
          | succ i => rw [(ss i t q).1] at m; cases m
        exact fun _ => (zero q1 m1).trans (zero q2 m2).symm
    · have hfull' := hfull (.ini ci [] :: (ds.map Sl.dat ++ List.replicate (N.length - (ps.length + 1)) Sl.un)) S
      unfold bnd at p
      generalize b (.ini ci [] :: (ds.map Sl.dat ++ List.replicate (N.length - (ps.length + 1)) Sl.un)) S = rr at p hfull' ⊢
      obtain ⟨rr, S2⟩ := rr
      cases rr with
      | ok fl =>
        cases fl with
        | nx ρ' =>
          intro F' σ H' _ ft
          have p2 : PostK G E F H1 ((match (ρ'[(0 : Nat)]? : Option Sl) with
            | some (.ini _ fs) => ret fs
            | _ => bad) S2) fun fs _ F' H' => Rep G F' (.obj ci fs) (.ref x) → Q .non H' := p
          cases q : ρ'[0]? with
          | none => rw [q] at p2; exact p2.elim
          | some t =>
            rw [q] at p2
            cases t <;> try exact p2.elim
            rename_i c fs
            obtain ⟨rfl, hlen⟩ := hfull' ρ' S2 rfl c fs q
            obtain ⟨ow, sl⟩ := ft.sl
            obtain ⟨o, _, _, m, vs, ⟨dx', hp⟩, ⟨hslf, _⟩, rf⟩ := sl.at_ 0 _ q
            rw [hslf] at hp m
            have gf : Go G F H1 S2 F' H' := ft.go
            have g3 := gf.frz (q := x) hx (fun hs => ⟨S, st hs⟩) hp m.f
            refine p2 _ _ g3 ⟨x, dx', vs, rfl, ?_, hlen.symm, rf.mono (fun a o e => by rw [upd_ne (ne_of_none e m.f)]; exact e)⟩
            rw [upd_same, hlen, List.take_length]
        | rt d => exact p.elim
        | bk ρ' => exact p.elim
        | ct ρ' => exact p.elim
      | exc y => exact fun cls dd F' H' g rx => p cls dd F' H' g rx
      | bad => exact p
  · rw [if_neg e] at p; exact p.elim
end

/-! ### calls -/
section
variable {Γ : Gam} {X : Cx} {j k : Nat}
def mCall (fn : List D → M D) (m : Rho → M (List D)) : EM := fun ρ => bnd (m ρ) fn
theorem de_call {x : Str} {p pos : Pos} {e : Expr} {es : List Expr} {f : Addr} {fd : FuncData} {ps : List Str} {fn : List D → M D} {m : Rho → M (List D)} (c : Cok Γ X k) (hj : j ≤ k) (F : FnOk X.prog X.w X.K X.mg X.base (L2.CX X.prog X.w) j f fd ps (spD Γ.G fn))
    (hg : Gl X x) (hm : X.mg x = some (.ref f)) (hk : PySem.W.keepIn X.K (.ref f) = true) (hb : Binds X.K fd ps []) (ha : DA Γ X (e :: es) m) (hdb : (x == ("__debug__" : Str)) = false := by decide)
    (he : starEach (e :: es) X.env = (false, eval e X.env) :: starEach es X.env := by rfl) (hpl : (backTo pos (starEach es X.env)).any (·.1) = false := by rfl) : DE Γ X (.Call (.Name x p) (e :: es) [] pos) (mCall fn m) :=
  pe_imp (pe_call (F.mono hj) c.hr hg hm hk hb .nil c.pass ha hdb he hpl) fun σ H Q h => ta_bind (β := D) (f := fun _ => fn) h fun ρ S F ds vs H1 ft r p => by
    rw [List.append_nil]
    exact ⟨ds, F, S, r, ft.le, ft.st, p⟩
theorem de_call0 {x : Str} {p pos : Pos} {f : Addr} {fd : FuncData} {ps : List Str} {fn : List D → M D} (c : Cok Γ X k) (hj : j ≤ k) (F : FnOk X.prog X.w X.K X.mg X.base (L2.CX X.prog X.w) j f fd ps (spD Γ.G fn))
    (hg : Gl X x) (hm : X.mg x = some (.ref f)) (hk : PySem.W.keepIn X.K (.ref f) = true) (hb : Binds X.K fd ps []) (hdb : (x == ("__debug__" : Str)) = false := by decide) : DE Γ X (.Call (.Name x p) [] [] pos) (mCall fn mNil) :=
  pe_imp (pe_call0 (F.mono hj) c.hr hg hm hk hb .nil c.pass hdb) fun σ H Q ⟨ρ, S, F, ft, p⟩ => ⟨[], F, S, .nil, ft.le, ft.st, p⟩
theorem fld_none {fs : List Str} {vs : List V} {m : Str} (h : m ∉ fs) : (fs.zip vs).lookup m = none := by
  induction fs generalizing vs with
  | nil => rfl
  | cons f fs ih =>
    cases vs with
    | nil => rfl
    | cons v vs =>
      have h1 : m ≠ f := fun z => h (by rw [z]; exact List.mem_cons_self)
      show (match m == f with | true => some v | false => (fs.zip vs).lookup m) = none
      rw [beq_eq_false_iff_ne.mpr h1]
      exact ih fun z => h (List.mem_cons_of_mem _ z)
def mMeth (ci : Nat) (fn : List D → M D) (mo : EM) (m : Rho → M (List D)) : EM := fun ρ => bnd (mo ρ) fun x => match x with
  | .obj c fs => if c = ci then bnd (m ρ) fun xs => fn (.obj c fs :: xs) else bad
  | _ => bad
/-- the receiver has come -/
theorem td_obj {β : Type} {mo : EM} {ci : Nat} {g : Rho → D → M D} {σ : L2.St} {H : Hp} {Q : VK} (h : tD Γ (fun ρ => bnd (mo ρ) fun x => match x with
  | .obj c fs => if c = ci then g ρ (.obj c fs) else bad
  | _ => bad) σ H Q) {R : VK} (k : ∀ ρ S F fs a dx vs H1, Fit Γ ρ S F σ H1 → F a = some (.ins (Γ.G.cls ci) dx ((Γ.G.fld ci).zip vs)) → Rep Γ.G F (.obj ci fs) (.ref a) → Post Γ.G Γ.E F H1 (g ρ (.obj ci fs) S) Q → R (.ref a) H1) : tD Γ mo σ H R := by
  refine td_bind (f := fun ρ x => match x with
  | .obj c fs => if c = ci then g ρ (.obj c fs) else bad
  | _ => bad) h fun ρ S F v x H1 ft rx p => ?_
  cases x <;> try exact p.elim
  rename_i c fs
  have p' : Post Γ.G Γ.E F H1 ((if c = ci then g ρ (.obj c fs) else bad) S) Q := p
  by_cases hc : c = ci
  · subst hc
    rw [if_pos rfl] at p'
    obtain ⟨a, dx, vs, rfl, ha, hl, r⟩ := rx
    exact k ρ S F fs a dx vs H1 ft ha ⟨a, dx, vs, rfl, ha, hl, r⟩ p'
  · rw [if_neg hc] at p'; exact p'.elim
theorem de_meth {pl : Sem Bool} {o e : Expr} {es : List Expr} {mt : Str} {apos pos : Pos} {f : Addr} {fd : FuncData} {ps : List Str} {fn : List D → M D} {ci : Nat} {mo : EM} {m : Rho → M (List D)} (c : Cok Γ X k) (hj : j ≤ k) (F : FnOk X.prog X.w X.K X.mg X.base (L2.CX X.prog X.w) j f fd ps (spD Γ.G fn))
    (hcl : Cls X.K (Γ.G.cls ci)) (hm : Meth X.K (Γ.G.cls ci) mt f) (hf : mt ∉ Γ.G.fld ci) (hb : Binds X.K fd ps []) (ho : DE Γ X o mo) (ha : DA Γ X (e :: es) m)
    (hst : starEach (e :: es) X.env = (false, eval e X.env) :: starEach es X.env := by rfl) (hpl : (backTo pos (starEach es X.env)).any (·.1) = false := by rfl)
    (ht : eval (.Call (.Attribute o mt apos) (e :: es) [] pos) X.env = (do
      let ov ← eval o X.env
      standAt apos.atName
      let (f, first) ← holding [ov] (getMethod ov mt pl)
      callWith pos f first (backTo pos (starEach (e :: es) X.env)) (backToKw pos (keywordEach [] X.env))) := by rfl) : DE Γ X (.Call (.Attribute o mt apos) (e :: es) [] pos) (mMeth ci fn mo m) := by
  refine pe_imp (pe_meth ho hcl hm (F.mono hj) c.hr hb .nil c.pass ha hst hpl ht) fun σ H Q h => td_obj (β := D) (g := fun ρ x => bnd (m ρ) fun xs => fn (x :: xs)) h fun ρ S F fs a dx vs H1 ft ea rx p => ?_
  refine ⟨a, dx, _, rfl, ft.le _ _ ea, fld_none hf, ρ, S, F, ft, (fit_bind (f := fun _ xs => fn (.obj ci fs :: xs)) ft p).imp fun ds S1 F1 H2 g ⟨f1, e1, p1⟩ ws rws => ?_⟩
  show spD Γ.G fn (V.ref a :: (ws ++ [])) H2 Q Γ.E
  rw [List.append_nil]
  exact ⟨.obj ci fs :: ds, F1, S1, .cons (rx.mono e1) rws, f1.le, f1.st, p1⟩
theorem de_meth0 {pl : Sem Bool} {o : Expr} {mt : Str} {apos pos : Pos} {f : Addr} {fd : FuncData} {ps : List Str} {fn : List D → M D} {ci : Nat} {mo : EM} (c : Cok Γ X k) (hj : j ≤ k) (F : FnOk X.prog X.w X.K X.mg X.base (L2.CX X.prog X.w) j f fd ps (spD Γ.G fn))
    (hcl : Cls X.K (Γ.G.cls ci)) (hm : Meth X.K (Γ.G.cls ci) mt f) (hf : mt ∉ Γ.G.fld ci) (hb : Binds X.K fd ps []) (ho : DE Γ X o mo)
    (ht : eval (.Call (.Attribute o mt apos) [] [] pos) X.env = (do
      let ov ← eval o X.env
      standAt apos.atName
      let (f, first) ← holding [ov] (getMethod ov mt pl)
      callWith pos f first (backTo pos (starEach [] X.env)) (backToKw pos (keywordEach [] X.env))) := by rfl) : DE Γ X (.Call (.Attribute o mt apos) [] [] pos) (mMeth ci fn mo mNil) := by
  refine pe_imp (pe_meth0 ho hcl hm (F.mono hj) c.hr hb .nil c.pass ht) fun σ H Q h => td_obj (β := D) (g := fun ρ x => bnd (mNil ρ) fun xs => fn (x :: xs)) h fun ρ S F fs a dx vs H1 ft ea rx p => ?_
  exact ⟨a, dx, _, rfl, ft.le _ _ ea, fld_none hf, [.obj ci fs], F, S, .cons rx .nil, ft.le, ft.st, p⟩
/-- o.m(.., k = v), each argument by its name -/
theorem de_methK {pl : Sem Bool} {o : Expr} {kws : List Keyword} {mt : Str} {apos pos : Pos} {f : Addr} {fd : FuncData} {ps ks : List Str} {fn : List D → M D} {ci : Nat} {mo : EM} {m : Rho → M (List D)} (c : Cok Γ X k) (hj : j ≤ k) (F : FnOk X.prog X.w X.K X.mg X.base (L2.CX X.prog X.w) j f fd ps (spD Γ.G fn))
    (hcl : Cls X.K (Γ.G.cls ci)) (hm : Meth X.K (Γ.G.cls ci) mt f) (hf : mt ∉ Γ.G.fld ci) (hb : KBinds X.K fd ps ks (fun us ws => us ++ ws) (fun us ws => us ++ ws)) (ho : DE Γ X o mo) (ha : PK X kws (tDA Γ m))
    (hall : (backToKw pos (keywordEach kws X.env)).all (·.1.isSome) = true := by rfl) (hks : (backToKw pos (keywordEach kws X.env)).filterMap (·.1) = ks := by rfl)
    (hpl : ((backTo pos (starEach [] X.env)).any (·.1) || (backToKw pos (keywordEach kws X.env)).any (·.1.isNone)) = false := by rfl)
    (ht : eval (.Call (.Attribute o mt apos) [] kws pos) X.env = (do
      let ov ← eval o X.env
      standAt apos.atName
      let (f, first) ← holding [ov] (getMethod ov mt pl)
      callWith pos f first (backTo pos (starEach [] X.env)) (backToKw pos (keywordEach kws X.env))) := by rfl) : DE Γ X (.Call (.Attribute o mt apos) [] kws pos) (mMeth ci fn mo m) := by
  refine ⟨fun pins s σ H Q I h => ?_⟩
  have h2 := td_obj (β := D) (R := fun v H1 => ∃ ρ S F fs a dx vs, v = .ref a ∧ Fit Γ ρ S F σ H1 ∧ F a = some (.ins (Γ.G.cls ci) dx ((Γ.G.fld ci).zip vs)) ∧ Rep Γ.G F (.obj ci fs) (.ref a) ∧ Post Γ.G Γ.E F H1 (bnd (m ρ) (fun xs => fn (.obj ci fs :: xs)) S) Q) (g := fun ρ x => bnd (m ρ) fun xs => fn (x :: xs)) h
    fun ρ S F fs a dx vs H1 ft ea rx p => ⟨ρ, S, F, fs, a, dx, vs, rfl, ft, ea, rx, p⟩
  refine PySem.W.methodCall_KW (pl := pl) (thn (ho.run pins s σ H _ I h2) fun u s1 ⟨x, H1, I1, rx, ρ, S, F1, fs, a, dx, vs, ex, ft, ea, ro, p⟩ => ?_) ht
  subst ex
  obtain rfl : u = Value.ref a := rx
  refine getmeth_ok I1 (ft.le _ _ ea) hcl hm (fld_none hf) ?_
  refine PySem.W.callWith_KW0 (first := [.ref a]) (h₀ := X.base) I1.ok.mod.kin hm.kp hall (thn (ha.run pos pins s1 σ H1 _ I1 ⟨ρ, S, F1, ft, (fit_bind (f := fun _ xs => fn (.obj ci fs :: xs)) ft p).imp fun ds S1 F2 H2 g q ws rws => (⟨ds, S1, F2, rws, q⟩ : ∃ ds S1 F2, RepL Γ.G F2 ds ws ∧ Fit Γ ρ S1 F2 σ H2 ∧ Same F1 F2 ∧ Post Γ.G Γ.E F2 H2 (fn (.obj ci fs :: ds) S1) Q)⟩) fun us s2 ⟨ws, H2, I2, r, ds, S1, F2, rds, f2, e2, p2⟩ => ⟨I2.kIn, ?_⟩) hpl
  rw [hks]
  exact run_fnk (us := [.ref a]) (vs := [.ref a]) (F.mono hj) c.hr hb c.pass I2 (.cons rfl .nil) r ⟨.obj ci fs :: ds, F2, S1, .cons (ro.mono e2) rds, f2.le, f2.st, p2⟩
/-- a property -/
def mProp (ci : Nat) (fn : List D → M D) (mo : EM) : EM := fun ρ => bnd (mo ρ) fun x => match x with
  | .obj c fs => if c = ci then noX (fn [.obj c fs]) else bad
  | _ => bad
theorem de_prop {o : Expr} {pr : Str} {pos : Pos} {pp g : Addr} {fd : FuncData} {ps : List Str} {fn : List D → M D} {ci : Nat} {mo : EM} (c : Cok Γ X k) (hj : j + 1 ≤ k) (F : FnOk X.prog X.w X.K X.mg X.base (L2.CX X.prog X.w) j g fd ps (spD Γ.G fn))
    (hcl : Cls X.K (Γ.G.cls ci)) (hp : PropOf X.K (Γ.G.cls ci) pr pp g) (hb : Binds X.K fd ps []) (ho : DE Γ X o mo) (hab : attributeBase o pr X.env (eval o X.env) = eval o X.env := by rfl) : DE Γ X (.Attribute o pr pos) (mProp ci fn mo) := by
  refine pe_imp (pe_prop ho hcl hp F (c.hr.mono hj) hb .nil passL hab) fun σ H Q h => td_obj (β := D) (g := fun _ x => noX (fn [x])) h fun ρ S F fs a dx vs H1 ft ea rx p => ?_
  exact ⟨a, dx, _, rfl, ft.le _ _ ea, [.obj ci fs], F, S, .cons rx .nil, ft.le, ft.st, post_noX p⟩
/-- an attribute -/
def dFld (nc : Nat) (fl : Nat → List Str) (f : Str) : D → Option D
  | .obj c fs => if c < nc ∧ f ∈ fl c then ((fl c).zip fs).lookup f else none
  | _ => none
theorem zip_lookup {G : Gh} {F : Hp} {f : Str} {d : D} : ∀ {names : List Str} {ds : List D} {vs : List V}, RepL G F ds vs → (names.zip ds).lookup f = some d → ∃ v, (names.zip vs).lookup f = some v ∧ Rep G F d v
  | [], _, _, _, h => by cases h
  | n :: ns, [], _, _, h => by cases h
  | n :: ns, x :: xs, _, ⟨v, ws, h1, h2, h3⟩, h => by
    subst h1
    have h' : (match f == n with | true => some x | false => (ns.zip xs).lookup f) = some d := h
    show ∃ u, (match f == n with | true => some v | false => (ns.zip ws).lookup f) = some u ∧ Rep G F d u
    cases e : f == n with
    | true => rw [e] at h'; cases h'; exact ⟨v, rfl, h2⟩
    | false => rw [e] at h'; exact zip_lookup h3 h'
theorem de_fld {o : Expr} {f : Str} {pos : Pos} {mo : EM} (c : Cok Γ X k) (K : KOk Γ.G) (ho : DE Γ X o mo) (hb : attributeBase o f X.env (eval o X.env) = eval o X.env := by rfl) : DE Γ X (.Attribute o f pos) (m1 (dFld Γ.G.nc Γ.G.fld f) mo) := by
  refine pe_imp (pe_fld ho hb) fun σ H Q h => td_bind (f := fun _ x => ofO (dFld Γ.G.nc Γ.G.fld f x)) h fun ρ S F v x H1 ft rx p => ?_
  cases e : dFld Γ.G.nc Γ.G.fld f x with
  | none => rw [e] at p; exact p.elim
  | some d =>
    rw [e] at p
    cases x <;> try (cases e; done)
    rename_i ci fs
    have e' : (if ci < Γ.G.nc ∧ f ∈ Γ.G.fld ci then ((Γ.G.fld ci).zip fs).lookup f else none) = some d := e
    by_cases hc : ci < Γ.G.nc ∧ f ∈ Γ.G.fld ci
    · rw [if_pos hc] at e'
      obtain ⟨a, dx, vs, rfl, ha, hl, r⟩ := rx
      obtain ⟨u, e2, r2⟩ := zip_lookup r e'
      exact ⟨a, _, dx, _, u, rfl, ft.le _ _ ha, by rw [← c.hK]; exact K.cls ci hc.1, by rw [← c.hK]; exact K.noat ci hc.1 f hc.2, e2, post_ret p ft.le ft.st r2⟩
    · rw [if_neg hc] at e'; cases e'
/-- C(..) -/
def mMake (ci : Nat) (fn : List D → M (List D)) (m : Rho → M (List D)) : EM := fun ρ => bnd (m ρ) fun xs => bnd (fn xs) fun fs => ret (.obj ci fs)
theorem de_make {x : Str} {p pos : Pos} {e : Expr} {es : List Expr} {f : Addr} {fd : FuncData} {ps : List Str} {ci : Nat} {fn : List D → M (List D)} {m : Rho → M (List D)} (c : Cok Γ X k) (hj : j + 1 ≤ k) (Mk : L2.Mk X.K (Γ.G.cls ci) f) (F : FnOk X.prog X.w X.K X.mg X.base (L2.CX X.prog X.w) j f fd ps (spI Γ.G ci fn))
    (hg : Gl X x) (hm : X.mg x = some (.ref (Γ.G.cls ci))) (hb : Binds X.K fd ps []) (ha : DA Γ X (e :: es) m) (hdb : (x == ("__debug__" : Str)) = false := by decide)
    (he : starEach (e :: es) X.env = (false, eval e X.env) :: starEach es X.env := by rfl) (hpl : (backTo pos (starEach es X.env)).any (·.1) = false := by rfl) : DE Γ X (.Call (.Name x p) (e :: es) [] pos) (mMake ci fn m) := by
  refine pe_imp (pe_make Mk F (c.hr.mono hj) hg hm hb .nil c.pass ha hdb he hpl) fun σ H Q h => ta_bind (β := D) (f := fun _ xs => bnd (fn xs) fun fs => ret (.obj ci fs)) h fun ρ S F ds vs H1 ft r p => ?_
  intro y dy hy hdy hne
  rw [List.append_nil]
  refine ⟨y, dy, ds, F, S, H1, vs, rfl, hy, hdy, hne, rfl, r, ft.le, ft.st, (PostK.bind p).imp fun fs S2 F2 H2 g2 p2 ro => ⟨rfl, ?_⟩⟩
  exact p2 F2 H2 (Go.refl g2.le g2.st) _ ro
/-- self.f = e in an __init__: the next attribute -/
def sIni (ci : Nat) (fl : Nat → List Str) (f : Str) (m : EM) : SM := fun ρ => bnd (m ρ) fun d => match (ρ[(0 : Nat)]? : Option Sl) with
  | some (.ini c fs) => if c = ci ∧ (fl ci)[fs.length]? = some f then ret (.nx (ρ.set 0 (.ini c (fs ++ [d])))) else bad
  | _ => bad
theorem putF_new {f : Str} {v : V} : ∀ {ns : List Str} {vs : List V}, f ∉ ns → ns.length = vs.length → putF f v (ns.zip vs) = (ns ++ [f]).zip (vs ++ [v])
  | [], [], _, _ => rfl
  | n :: ns, w :: vs, h, hl => by
    have h1 : n ≠ f := fun z => h (by rw [z]; exact List.mem_cons_self)
    show (if n = f then _ else (n, w) :: putF f v (ns.zip vs)) = _
    rw [if_neg h1, putF_new (fun z => h (List.mem_cons_of_mem _ z)) (by simpa using hl)]
    rfl
theorem ds_ini {ci : Nat} {f : Str} {e : Expr} {m : EM} {np pos' pos : Pos} (c : Cok Γ X k) (K : KOk Γ.G) (hci : ci < Γ.G.nc) (hnd : (Γ.G.fld ci).Nodup) (hfew : (Γ.G.fld ci).length < 1000) (h : DE Γ X e m) (hN : X.N[0]? = some ("self" : Str) := by rfl) (hv : Vis X.env.scope ("self" : Str) := by first | exact Or.inl rfl | exact Or.inr (Or.inl rfl) | exact Or.inr (Or.inr rfl))
    (hs : swapsWith e (some (.Attribute (.Name ("self" : Str) np) f pos')) pos.line X.env = pure false := by rfl) : DSt Γ X (.Assign [.Attribute (.Name ("self" : Str) np) f pos'] e pos) (sIni ci Γ.G.fld f m) := by
  refine ps_imp (ps_fld (pe_var hN hv) h hs) fun Dn σ H ⟨ρ, S, F, ft, p⟩ => ?_
  refine ⟨ρ, S, F, ft, (st_bind (f := fun ρ d => match (ρ[(0 : Nat)]? : Option Sl) with
  | some (.ini c fs) => if c = ci ∧ (Γ.G.fld ci)[fs.length]? = some f then ret (.nx (ρ.set 0 (.ini c (fs ++ [d])))) else bad
  | _ => bad) ft p).imp fun d S1 F1 H1 g ⟨f1, _, p1⟩ v rv => ?_⟩
  cases q : ρ[0]? with
  | none => rw [q] at p1; exact p1.elim
  | some t =>
    rw [q] at p1
    cases t <;> try exact p1.elim
    rename_i cc fs
    have p2 : PostS Γ F1 Dn ((if cc = ci ∧ (Γ.G.fld ci)[fs.length]? = some f then ret (.nx (ρ.set 0 (.ini cc (fs ++ [d])))) else bad) S1) := p1
    by_cases hc : cc = ci ∧ (Γ.G.fld ci)[fs.length]? = some f
    · rw [if_pos hc] at p2
      obtain ⟨rfl, hf⟩ := hc
      obtain ⟨ow, sl⟩ := f1.sl
      obtain ⟨o, e1, e2, mi, vs, ⟨dx, hp⟩, ⟨hslf, hlen⟩, rf⟩ := sl.at_ 0 _ q
      subst e2
      have hlt := (List.getElem?_eq_some_iff.mp hf).1
      have hmem : f ∈ Γ.G.fld cc := List.mem_of_getElem? hf
      have htk : (Γ.G.fld cc).take fs.length ++ [f] = (Γ.G.fld cc).take (fs.length + 1) := by
        rw [List.take_succ, hf]; rfl
      have hnot : f ∉ (Γ.G.fld cc).take fs.length := by
        intro hm
        obtain ⟨i, hi, ei⟩ := List.mem_iff_getElem.mp hm
        rw [List.length_take] at hi
        rw [List.getElem_take] at ei
        have e3 : (Γ.G.fld cc)[fs.length] = f := (List.getElem?_eq_some_iff.mp hf).2
        have hij : i < fs.length := by omega
        exact absurd (ei.trans e3.symm) (List.pairwise_iff_getElem.mp hnd i fs.length (by omega) hlt hij)
      refine ⟨_, e1, _, _, dx, _, rfl, hp, by rw [← c.hK]; exact K.cls cc hci, by rw [← c.hK]; exact K.noat cc hci f hmem, ?_, ?_⟩
      · rw [List.length_zip, List.length_take]; omega
      · rw [putF_new hnot (by rw [List.length_take, ← rf.length]; omega), htk]
        refine p2 F1 σ _ (Same.refl F1) ?_
        have ne : ∀ {a : Addr} {u : HO}, F1 a = some u → a ≠ ow 0 := fun h z => by rw [z, mi.f] at h; cases h
        refine ⟨⟨fun a u h => by rw [upd_ne (ne h)]; exact f1.le a u h, fun hs => ?_, f1.go.ext, fun a u h n => ?_, f1.go.new, fun a h => ?_⟩, by simp [f1.len], ow, ⟨fun j s q2 => ?_, fun j l s t q1 q2 m1 m2 => ?_⟩⟩
        · have st := f1.st hs
          have n3 := mi.st hs
          exact ⟨by rw [upd_ne (Ne.symm n3.1)]; exact st.hd, by rw [upd_ne (Ne.symm n3.2.1)]; exact st.hg, by rw [upd_ne (Ne.symm n3.2.2)]; exact st.hc, st.fd, st.fg, st.fc, st.ne⟩
        · have hne : a ≠ ow 0 := fun z => by rw [z, mi.h0] at h; cases h
          rw [upd_ne hne]
          exact f1.go.keep a u h n
        · by_cases z : a = ow 0
          · rw [z, upd_same] at h; cases h
          · rw [upd_ne z] at h; exact f1.go.grow a h
        · cases j with
          | zero =>
            have hl0 : 0 < ρ.length := (List.getElem?_eq_some_iff.mp q).1
            rw [List.getElem?_set_self hl0] at q2
            cases q2
            refine ⟨_, e1, rfl, mi, vs ++ [v], ⟨dx, ?_⟩, ⟨hslf, by rw [List.length_append]; exact hlt⟩, rf.append (.cons rv .nil)⟩
            rw [upd_same, List.length_append]
            rfl
          | succ j =>
            rw [List.getElem?_set_ne (by omega)] at q2
            obtain ⟨o2, e3, r2⟩ := sl.at_ (j + 1) s q2
            refine ⟨o2, e3, ?_⟩
            have hd : s.mine = true → ow (j + 1) ≠ ow 0 := fun mj z2 => absurd (sl.inj (j + 1) 0 s _ q2 q mj rfl z2) (by omega)
            cases s with
            | un => trivial
            | dat d => exact r2
            | own zs => obtain ⟨e4, m4, vs4, h4, r4⟩ := r2; exact ⟨e4, m4, vs4, by rw [upd_ne (hd rfl)]; exact h4, r4⟩
            | owd ks zs => obtain ⟨e4, m4, vs4, h4, r4⟩ := r2; exact ⟨e4, m4, vs4, by rw [upd_ne (hd rfl)]; exact h4, r4⟩
            | owt ks zs => obtain ⟨e4, m4, vs4, h4, r4⟩ := r2; exact ⟨e4, m4, vs4, by rw [upd_ne (hd rfl)]; exact h4, r4⟩
            | ini c zs => obtain ⟨e4, m4, vs4, ⟨dx, h4⟩, r4⟩ := r2; exact ⟨e4, m4, vs4, ⟨dx, by rw [upd_ne (hd rfl)]; exact h4⟩, r4⟩
        · have back : ∀ {l : Nat} {t : Sl}, (ρ.set 0 (.ini cc (fs ++ [d])))[l]? = some t → t.mine = true → ∃ t', ρ[l]? = some t' ∧ t'.mine = true := fun {l t} q mt => by
            cases l with
            | zero => exact ⟨_, by assumption, rfl⟩
            | succ l =>
              rw [List.getElem?_set_ne (by omega)] at q
              exact ⟨t, q, mt⟩
          obtain ⟨s', q1', m1'⟩ := back q1 m1
          obtain ⟨t', q2', m2'⟩ := back q2 m2
          exact sl.inj j l s' t' q1' q2' m1' m2'
    · rw [if_neg hc] at p2; exact p2.elim
end
end Dv

/-! Dv8: the draws' state, defs with a star, own ==, minus. -/
namespace Dv
open PySem PySem.Spec L2
section
variable {Γ : Gam} {X : Cx} {j k : Nat}
theorem PostK.at {α : Type} {G : Gh} {E : XK} {F H : Hp} {a : α} {S : DS} {K : α → DS → Hp → Hp → Prop} (h : PostK G E F H (.ok a, S) K) (le : Same F H) (st : G.hs = true → StOK G F H S) : K a S F H := h F H (Go.refl le st)
/-! ### the draws' state -/
inductive Sk where
  | turn | rest | cells
def Sk.nm : Sk → Str
  | .turn => "turn"
  | .rest => "rest"
  | .cells => "cells"
def Sk.get : Sk → DS → D
  | .turn, S => .int S.turn
  | .rest, S => .int S.rest
  | .cells, S => .lst (S.cells.map D.int)
def Sk.set : Sk → DS → Int → Option DS
  | .turn, S, n => some { S with turn := n }
  | .rest, S, n => some { S with rest := n }
  | .cells, _, _ => none
def isStt (ρ : Rho) (i : Nat) : Bool := match (ρ[i]? : Option Sl) with
  | some (.dat .stt) => true
  | _ => false
theorem isStt_at {ρ : Rho} {i : Nat} {S : DS} {F H : Hp} {σ : L2.St} (ft : Fit Γ ρ S F σ H) (h : isStt ρ i = true) : σ[i]? = some (some (.ref Γ.G.pd)) ∧ Γ.G.hs = true := by
  unfold isStt at h
  split at h
  · rename_i e
    obtain ⟨v, e1, h1, h2⟩ := ft.dat e
    subst h2
    exact ⟨e1, h1⟩
  · cases h
def mSt (i : Nat) (z : Sk) : EM := fun ρ S => if isStt ρ i = true then (.ok (z.get S), S) else (.bad, S)
theorem repL_ints {G : Gh} {F : Hp} : ∀ ns : List Int, RepL G F (ns.map D.int) (ns.map V.int)
  | [] => .nil
  | _ :: ns => .cons rfl (repL_ints ns)
theorem de_stget {i : Nat} {x z : Str} {p p' pos : Pos} {jj : Nat} (sk : Sk) (c : Cok Γ X k) (hz : z = sk.nm := by rfl) (hN : X.N[i]? = some x := by rfl) (hv : Vis X.env.scope x := by first | exact Or.inl rfl | exact Or.inr (Or.inl rfl) | exact Or.inr (Or.inr rfl)) (hd : (x == ("__debug__" : Str)) = false := by decide)
    (hcd : (x == ("__classdict__" : Str)) = false := by decide) (hs : NoSl (.Constant (.str z) jj p') := by intro _ _; rfl) : DE Γ X (.Subscript (.Name x p) (.Constant (.str z) jj p') pos) (mSt i sk) := by
  have hu : X.A.units + 1 < cLine := by have := c.hu; omega
  refine pe_imp (pe_dget hu (pe_var hN hv hd hcd) pe_str hs) fun σ H Q ⟨ρ, S, F, ft, q⟩ => ?_
  unfold mSt at q
  by_cases h : isStt ρ i = true
  · rw [if_pos h] at q
    obtain ⟨e1, hh⟩ := isStt_at ft h
    have st := ft.st hh
    refine ⟨.ref Γ.G.pd, e1, Γ.G.pd, ?_⟩
    subst hz
    cases sk with
    | turn => exact ⟨.int S.turn, rfl, DGet.k (k := .inr "turn") st.hd, q.at ft.le ft.st _ rfl⟩
    | rest => exact ⟨.int S.rest, rfl, DGet.k (k := .inr "rest") st.hd, q.at ft.le ft.st _ rfl⟩
    | cells => exact ⟨.ref Γ.G.pc, rfl, DGet.k (k := .inr "cells") st.hd, q.at ft.le ft.st _ ⟨_, _, rfl, st.fc, repL_ints _⟩⟩
  · rw [if_neg h] at q; exact q.elim
/-- the state moved on -/
theorem Fit.state {ρ : Rho} {S S' : DS} {F H : Hp} {σ : L2.St} (f : Fit Γ ρ S F σ H) (hs : Γ.G.hs = true) (hc : S'.cells = S.cells) {H' : Hp} (h1 : H' Γ.G.pd = some (.dK (stK Γ.G S'))) (h2 : H' Γ.G.pg = some (.lst (S'.great.map V.int)))
    (h3 : ∀ a, a ≠ Γ.G.pd → a ≠ Γ.G.pg → H' a = H a) : Fit Γ ρ S' F σ H' := by
  have st := f.st hs
  have pcd : Γ.G.pc ≠ Γ.G.pd := fun z => by have q := st.fc; rw [z, st.fd] at q; cases q
  have pcg : Γ.G.pc ≠ Γ.G.pg := fun z => by have q := st.fc; rw [z, st.fg] at q; cases q
  have keepF : ∀ a o, F a = some o → H' a = some o := fun a o e => by
    have n1 : a ≠ Γ.G.pd := fun z => by rw [z, st.fd] at e; cases e
    have n2 : a ≠ Γ.G.pg := fun z => by rw [z, st.fg] at e; cases e
    rw [h3 a n1 n2]; exact f.le a o e
  refine ⟨⟨keepF, fun _ => ⟨h1, h2, by rw [h3 _ pcd pcg, hc]; exact st.hc, st.fd, st.fg, by rw [hc]; exact st.fc, st.ne⟩, f.go.ext, fun a o e n => ?_, f.go.new, fun a e => ?_⟩, f.len, ?_⟩
  · obtain ⟨n1, n2⟩ := n hs
    rw [h3 a n1 n2]
    exact f.go.keep a o e n
  · by_cases z1 : a = Γ.G.pd
    · rw [z1, h1] at e; cases e
    · by_cases z2 : a = Γ.G.pg
      · rw [z2, h2] at e; cases e
      · rw [h3 a z1 z2] at e; exact f.go.grow a e
  · obtain ⟨ow, sl⟩ := f.sl
    refine ⟨ow, ⟨fun i s e => ?_, sl.inj⟩⟩
    obtain ⟨o, e1, r⟩ := sl.at_ i s e
    refine ⟨o, e1, ?_⟩
    have nn : ∀ {u : HO}, Mine Γ F (ow i) → H (ow i) = some u → H' (ow i) = some u := fun m hu => by rw [h3 _ (m.st hs).1 (m.st hs).2.1]; exact hu
    cases s with
    | un => trivial
    | dat d => exact r
    | own zs => obtain ⟨e4, m4, vs4, h4, r4⟩ := r; exact ⟨e4, m4, vs4, nn m4 h4, r4⟩
    | owd ks zs => obtain ⟨e4, m4, vs4, h4, r4⟩ := r; exact ⟨e4, m4, vs4, nn m4 h4, r4⟩
    | owt ks zs => obtain ⟨e4, m4, vs4, h4, r4⟩ := r; exact ⟨e4, m4, vs4, nn m4 h4, r4⟩
    | ini c zs => obtain ⟨e4, m4, vs4, ⟨dx, h4⟩, r4⟩ := r; exact ⟨e4, m4, vs4, ⟨dx, nn m4 h4⟩, r4⟩
def sSt (i : Nat) (z : Sk) (m : EM) : SM := fun ρ => bnd (m ρ) fun d S => match d with
  | .int n => (match z.set S n with
    | some S' => if isStt ρ i = true then (.ok (.nx ρ), S') else (.bad, S)
    | none => (.bad, S))
  | _ => (.bad, S)
theorem ds_stput {i : Nat} {x z : Str} {e : Expr} {m : EM} {p p' tpos pos : Pos} {jj : Nat} (sk : Sk) (c : Cok Γ X k) (h : DE Γ X e m) (hz : z = sk.nm := by rfl) (hN : X.N[i]? = some x := by rfl) (hv : Vis X.env.scope x := by first | exact Or.inl rfl | exact Or.inr (Or.inl rfl) | exact Or.inr (Or.inr rfl)) (hd : (x == ("__debug__" : Str)) = false := by decide)
    (hcd : (x == ("__classdict__" : Str)) = false := by decide) (hs : swapsWith e (some (.Subscript (.Name x p) (.Constant (.str z) jj p') tpos)) pos.line X.env = pure false := by rfl) : DSt Γ X (.Assign [.Subscript (.Name x p) (.Constant (.str z) jj p') tpos] e pos) (sSt i sk m) := by
  have hu : X.A.units + 1 < cLine := by have := c.hu; omega
  refine ps_imp (ps_dput hu (pe_var hN hv hd hcd) pe_str h hs) fun Dn σ H ⟨ρ, S, F, ft, q⟩ => ?_
  refine ⟨ρ, S, F, ft, (st_bind (f := fun ρ d S => match d with
  | .int n => (match sk.set S n with
    | some S' => if isStt ρ i = true then (.ok (.nx ρ), S') else (.bad, S)
    | none => (.bad, S))
  | _ => (.bad, S)) ft q).imp fun d S1 F1 H1 g ⟨f1, _, p1⟩ v rv => ?_⟩
  cases d with
  | int n =>
    cases rv
    have p2 : PostS Γ F1 Dn (match sk.set S1 n with
      | some S' => if isStt ρ i = true then (.ok (.nx ρ), S') else (.bad, S1)
      | none => (.bad, S1)) := p1
    cases es : sk.set S1 n with
    | none => rw [es] at p2; exact p2.elim
    | some S' =>
      rw [es] at p2
      by_cases hi : isStt ρ i = true
      · have p3 : PostS Γ F1 Dn (if isStt ρ i = true then (.ok (.nx ρ), S') else (.bad, S1)) := p2
        rw [if_pos hi] at p3
        obtain ⟨e1, hh⟩ := isStt_at f1 hi
        have st := f1.st hh
        have hl : (stK Γ.G S1).length < sizeLine := by show 4 < sizeLine; rw [sizeLine_eq]; decide
        have ne : Γ.G.pg ≠ Γ.G.pd := fun z => by have q := st.hg; rw [z, st.hd] at q; cases q
        subst hz
        refine ⟨.ref Γ.G.pd, e1, ?_⟩
        cases sk with
        | turn =>
          cases es
          exact ⟨Γ.G.pd, _, rfl, DPut.k (k := .inr "turn") st.hd hl, p3 F1 σ _ (Same.refl F1) (f1.state (S' := { S1 with turn := n }) (H' := upd H1 Γ.G.pd _) hh rfl (by rw [upd_same]; rfl) (by rw [upd_ne ne]; exact st.hg) fun a n1 _ => upd_ne n1)⟩
        | rest =>
          cases es
          exact ⟨Γ.G.pd, _, rfl, DPut.k (k := .inr "rest") st.hd hl, p3 F1 σ _ (Same.refl F1) (f1.state (S' := { S1 with rest := n }) (H' := upd H1 Γ.G.pd _) hh rfl (by rw [upd_same]; rfl) (by rw [upd_ne ne]; exact st.hg) fun a n1 _ => upd_ne n1)⟩
        | cells => cases es
      · have p3 : PostS Γ F1 Dn (if isStt ρ i = true then (.ok (.nx ρ), S') else (.bad, S1)) := p2
        rw [if_neg hi] at p3; exact p3.elim
  | _ => exact p1.elim
/-- state['great'] != [] -/
def mGr (i : Nat) : Rho → M Bool := fun ρ S => if isStt ρ i = true then (.ok (!S.great.isEmpty), S) else (.bad, S)
theorem lay_ints : ∀ ns : List Int, PyData.canLayAll0 (ns.map PyData.int) = true ∧ PyData.depthAll (ns.map PyData.int) = 0
  | [] => ⟨by simp [PyData.canLayAll0], by simp [PyData.depthAll]⟩
  | n :: ns => by
    obtain ⟨h1, h2⟩ := lay_ints ns
    exact ⟨by simp [PyData.canLayAll0, PyData.canLay0, h1], by simp [PyData.depthAll, PyData.depth, h2]⟩
theorem shaped_ints (ns : List Int) : SeqAt.shaped (.list (ns.map PyData.int)) = true := by
  obtain ⟨h1, h2⟩ := lay_ints ns
  unfold SeqAt.shaped
  rw [Bool.and_eq_true]
  exact ⟨by simp [PyData.canLay0, h1], by simp [PyData.depth, h2]⟩
theorem eqv_ints (ns : List Int) : PyData.eqv (.list (ns.map PyData.int)) (.list []) = ns.isEmpty := by
  cases ns with
  | nil => simp [PyData.eqv, PyData.eqvAll]
  | cons n ns => simp [PyData.eqv, PyData.eqvAll]
theorem dt_great {i : Nat} {x z : Str} {p p' p2 p3 pos : Pos} {jj : Nat} (c : Cok Γ X k) (hz : z = "great" := by rfl) (hN : X.N[i]? = some x := by rfl) (hv : Vis X.env.scope x := by first | exact Or.inl rfl | exact Or.inr (Or.inl rfl) | exact Or.inr (Or.inr rfl)) (hd : (x == ("__debug__" : Str)) = false := by decide)
    (hcd : (x == ("__classdict__" : Str)) = false := by decide) (hs : NoSl (.Constant (.str z) jj p') := by intro _ _; rfl) (hm : behindInMarks .NotEq (.List [] p3) = false := by rfl) :
    DT Γ X (.Compare (.Subscript (.Name x p) (.Constant (.str z) jj p') p2) [.NotEq] [.List [] p3] pos) (mGr i) := by
  have hu : X.A.units + 1 < cLine := by have := c.hu; omega
  have hk : OpR X (compareOp .NotEq) (rNeD Γ.G.K) := op_nec c
  refine pt_imp (pt_cmpR hk (pe_dget hu (pe_var hN hv hd hcd) pe_str hs) (pe_lst pa_nil) hm) fun σ H Q ⟨ρ, S, F, ft, q⟩ => ?_
  unfold mGr at q
  by_cases h : isStt ρ i = true
  · rw [if_pos h] at q
    obtain ⟨e1, hh⟩ := isStt_at ft h
    have st := ft.st hh
    subst hz
    refine ⟨.ref Γ.G.pd, e1, Γ.G.pd, .ref Γ.G.pg, rfl, DGet.k (k := .inr "great") st.hd, Nat.zero_le _, fun a na => ?_⟩
    have g := Go.allocH (o := .lst []) ft.le ft.st na
    have hne : Γ.G.pg ≠ a := fun z => by have q := st.hg; rw [z, na] at q; cases q
    refine ⟨.list (S.great.map PyData.int), .list [], .lst (.inl (.inl (by rw [upd_ne hne]; exact st.hg))) (dpAll_ints _), .lst (.inl (.inl upd_same)) .nil, shaped_ints _, shaped_ints [], _, rfl, ?_⟩
    rw [eqv_ints]
    exact q F _ g
  · rw [if_neg h] at q; exact q.elim
/-- state['great'].pop(0) -/
def mPop (i : Nat) : EM := fun ρ S => if isStt ρ i = true then (match S.great with
  | n :: ns => (.ok (.int n), { S with great := ns })
  | [] => (.bad, S)) else (.bad, S)
theorem de_pop {i : Nat} {x z : Str} {p p' p2 apos p3 pos : Pos} {jj j0 : Nat} (c : Cok Γ X k) (hz : z = "great" := by rfl) (hN : X.N[i]? = some x := by rfl) (hv : Vis X.env.scope x := by first | exact Or.inl rfl | exact Or.inr (Or.inl rfl) | exact Or.inr (Or.inr rfl)) (hd : (x == ("__debug__" : Str)) = false := by decide)
    (hcd : (x == ("__classdict__" : Str)) = false := by decide) (hs : NoSl (.Constant (.str z) jj p') := by intro _ _; rfl)
    (hbase : attributeBase (.Subscript (.Name x p) (.Constant (.str z) jj p') p2) "pop" X.env (eval (.Subscript (.Name x p) (.Constant (.str z) jj p') p2) X.env) = eval (.Subscript (.Name x p) (.Constant (.str z) jj p') p2) X.env := by rfl)
    (hfew : ((backTo pos (starEach [.Constant (.int 0) j0 p3] X.env)).all (fun x => !x.1) && (backToKw pos (keywordEach [] X.env)).all (fun x => x.1.isSome) && decide ([Expr.Constant (.int 0) j0 p3].length + ([] : List Keyword).length + (if ([] : List Keyword).isEmpty then 0 else 1) < 30)) = true := by rfl)
    (hline : (apos.endLine == pos.line) = true := by rfl) (hst : starEach [.Constant (.int 0) j0 p3] X.env = (false, eval (.Constant (.int 0) j0 p3) X.env) :: starEach [] X.env := by rfl) (hplain : (backTo pos (starEach [] X.env)).any (·.1) = false := by rfl) :
    DE Γ X (.Call (.Attribute (.Subscript (.Name x p) (.Constant (.str z) jj p') p2) "pop" apos) [.Constant (.int 0) j0 p3] [] pos) (mPop i) := by
  have hu : X.A.units + 1 < cLine := by have := c.hu; omega
  refine pe_imp (pe_bm PySem.F.plainAttrs_list PySem.F.slot_list_pop PySem.F.type_list_pop mt_popAt (pe_dget hu (pe_var hN hv hd hcd) pe_str hs) (pa_cons pe_int pa_nil hst) hbase hfew hline hst hplain) fun σ H Q ⟨ρ, S, F, ft, q⟩ => ?_
  unfold mPop at q
  by_cases h : isStt ρ i = true
  · rw [if_pos h] at q
    obtain ⟨e1, hh⟩ := isStt_at ft h
    have st := ft.st hh
    subst hz
    refine ⟨.ref Γ.G.pd, e1, Γ.G.pd, .ref Γ.G.pg, rfl, DGet.k (k := .inr "great") st.hd, .inl ⟨rfl, _, .inl (.inl st.hg)⟩, ?_⟩
    cases eg : S.great with
    | nil => rw [eg] at q; exact q.elim
    | cons n ns =>
      rw [eg] at q
      have hg := st.hg
      rw [eg] at hg
      refine ⟨Γ.G.pg, _, 0, 0, .int n, rfl, rfl, hg, by decide, by decide, ?_, rfl, ?_⟩
      · have hl : 0 < ((n :: ns).map V.int).length := by simp
        unfold seqIndex?
        simp
      · have ne : Γ.G.pd ≠ Γ.G.pg := fun z => by have q := st.hg; rw [← z, st.hd] at q; cases q
        have f2 := ft.state (S' := { S with great := ns }) (H' := upd H Γ.G.pg (.lst (ns.map V.int))) hh rfl (by rw [upd_ne ne]; exact st.hd) (by rw [upd_same]) fun a _ n2 => upd_ne n2
        exact q F _ ⟨f2.le, f2.st, Same.refl F, fun a o e n => by rw [upd_ne (n hh).2]; exact e, fun a o e => .inl e, fun a e => by
          by_cases z : a = Γ.G.pg
          · rw [z, upd_same] at e; cases e
          · rw [upd_ne z] at e; exact e⟩ _ rfl
  · rw [if_neg h] at q; exact q.elim
/-- -e -/
def dNeg : D → Option D
  | .int i => some (.int (-i))
  | _ => none
theorem de_neg {a : Expr} {m : EM} {pos : Pos} (h : DE Γ X a m) : DE Γ X (.UnaryOp .USub a pos) (m1 dNeg m) := by
  refine pe_imp (pe_un un_neg h) fun σ H Q hq => td_bind (f := fun _ x => ofO (dNeg x)) hq fun ρ S F v x H1 ft rx p => ?_
  cases x <;> try exact p.elim
  cases rx
  exact ⟨_, rfl, post_ret p ft.le ft.st rfl⟩

/-! ### def f(.., *rest) -/
def dnS (n N : Nat) (b : SM) : List D → M D := fun ds => if n ≤ ds.length ∧ ds.length - n ≤ sizeLine then dn (n + 1) N b (ds.take n ++ [.tup (ds.drop n)]) else bad
abbrev FnRD (P : Program) (w : World) (K : PySem.W.Frag) (mg : Str → Option Value) (base : Heap) (k : Nat) (f : Addr) (G : Gh) (fn : List D → M D) : Prop := FnR P w K mg base (L2.CX P w) k f (spD G fn)
theorem star_ok {P : Program} {w : World} {K : PySem.W.Frag} {mg : Str → Option Value} {base : Heap} {x qual : Str} {params : Arguments} {body : List Stmt} {scope : Scope} {f : Addr} {fd : FuncData} {G : Gh} {N ps : List Str} {pv : Str} {kk : Nat} {b : SM}
    (Df : FunD K x qual params body scope [] [] f fd) (Sc : FnScope N (ps ++ [pv]) scope) (hK : G.K = K) (hl : ps.length + 1 ≤ N.length)
    (hbind : ∀ (dV kV doc pm : Value) (an : Option Addr) (cdv ct : Value) (us rest : List Value), us.length = ps.length → bindArgs (PySem.W.fnOf x qual params body scope .none kV doc pm an cdv ct) ⟨us ++ rest, []⟩ = (newTuple rest >>= fun t => pure (ps.zip us ++ [(pv, t)])))
    (hb : ∀ (cdv : Value) (A : Around) (outer : List Env) (s : Shared) (F H : Hp) (E : XK), Cok ⟨G, F, H, E, 0⟩ (cxD P w K mg base N qual scope f cdv A outer s H E) kk → DSs ⟨G, F, H, E, 0⟩ (cxD P w K mg base N qual scope f cdv A outer s H E) body b) :
    FnRD P w K mg base (kk + 1) f G (dnS ps.length N.length b) := by
  obtain ⟨oc, od, dV, kV, doc, pm, an, cdv, ct, osl, rfl, lk, hcd, hD, hKw⟩ := Df.ex
  have hdV : dV = .none := by
    rcases hD with ⟨_, h⟩ | ⟨h, _⟩
    · exact h
    · exact absurd rfl h
  subst hdV
  refine FnR.imp (StX.fn_star (sp := spD G (dn (ps.length + 1) N.length b)) lk hcd Sc StX.cxUp (fun us rest hlen => hbind .none kV doc pm an cdv ct us rest hlen) fun A outer s H vs Q E hr h => ?_) fun vs H Q E h => ?_
  · obtain ⟨ds, F, S, r, le, st, p⟩ := h
    unfold dn at p
    by_cases e : ds.length = ps.length + 1
    · rw [if_pos e] at p
      refine ⟨_, hb cdv A outer s F H E (cok_def Sc.nd hK hr), ds.map Sl.dat ++ List.replicate (N.length - (ps.length + 1)) Sl.un, S, F, ?_, post_end (Γ := ⟨G, F, H, E, 0⟩) (r := b (ds.map Sl.dat ++ List.replicate (N.length - (ps.length + 1)) Sl.un) S) rfl rfl p⟩
      rw [← e]
      exact fit_start (Γ := ⟨G, F, H, E, 0⟩) (Go.refl le st) r (by rw [e]; exact hl)
    · rw [if_neg e] at p; exact p.elim
  · obtain ⟨ds, F, S, r, le, st, p⟩ := h
    unfold dnS at p
    by_cases e : ps.length ≤ ds.length ∧ ds.length - ps.length ≤ sizeLine
    · rw [if_pos e] at p
      refine ⟨vs.take ps.length, vs.drop ps.length, (List.take_append_drop _ _).symm, by rw [List.length_take, ← r.length]; omega, by rw [List.length_drop, ← r.length]; exact e.2, fun q nq => ?_⟩
      have g := Go.alloc (o := .tup (vs.drop ps.length)) le st nq
      exact ⟨_, _, S, ((r.take _).mono g.ext).append (.cons (show Rep G _ (.tup (ds.drop ps.length)) (.ref q) from ⟨q, _, rfl, .inl (.inl upd_same), (r.drop _).mono g.ext⟩) .nil), g.le, g.st, PostK.go g p⟩
    · rw [if_neg e] at p; exact p.elim
theorem de_callR {x : Str} {p pos : Pos} {e : Expr} {es : List Expr} {f : Addr} {fn : List D → M D} {m : Rho → M (List D)} (c : Cok Γ X k) (hj : j ≤ k) (F : FnRD X.prog X.w X.K X.mg X.base j f Γ.G fn)
    (hg : Gl X x) (hm : X.mg x = some (.ref f)) (hk : PySem.W.keepIn X.K (.ref f) = true) (ha : DA Γ X (e :: es) m) (hdb : (x == ("__debug__" : Str)) = false := by decide)
    (he : starEach (e :: es) X.env = (false, eval e X.env) :: starEach es X.env := by rfl) (hpl : (backTo pos (starEach es X.env)).any (·.1) = false := by rfl) : DE Γ X (.Call (.Name x p) (e :: es) [] pos) (mCall fn m) := by
  refine ⟨fun pins s σ H Q I h => ?_⟩
  have h2 : tDA Γ m σ H fun vs H1 => spD Γ.G fn vs H1 Q Γ.E := ta_bind (β := D) (f := fun _ => fn) h fun ρ S F ds vs H1 ft r p => ⟨ds, F, S, r, ft.le, ft.st, p⟩
  refine wpAny_Call_Name_kw (ld_glob I hg hm ?_ hdb)
  refine PySem.W.callWith_K (h₀ := X.base) I.ok.mod.kin hk (thn (ha.run pos pins s σ H _ I h2) fun us s1 ⟨vs, H1, I1, r, q⟩ => ⟨I1.kIn, ?_⟩) he hpl
  exact wpAny_call (run_fnR (F.mono hj) c.hr c.pass I1 r q)

/-! ### a == b, the class's own == -/
def blOnly : D → M D
  | .bl b => ret (.bl b)
  | _ => bad
def mOEq (ci : Nat) (fn : List D → M D) (ma mb : EM) : EM := fun ρ => bnd (ma ρ) fun x => bnd (mb ρ) fun y => match x, y with
  | .obj c fs, .obj d gs => if c = ci ∧ d = ci then bnd (fn [.obj c fs, .obj d gs]) blOnly else bad
  | _, _ => bad
/-- what is met: both of the class at C, then the promise -/
def rOEq (G : Gh) (ci : Nat) (fn : List D → M D) (E : XK) : R2 := fun x y H Q => ∃ a b dx dy fs gs, x = .ref a ∧ y = .ref b ∧ H a = some (.ins (G.cls ci) dx fs) ∧ H b = some (.ins (G.cls ci) dy gs) ∧ spD G fn [.ref a, .ref b] H (fun v H' => (∃ t, v = .bl t) ∧ Q v H') E
theorem op_oeq {f : Addr} {fd : FuncData} {ps : List Str} {fn : List D → M D} {ci : Nat} (c : Cok Γ X k) (hj : j ≤ k) (F : FnOk X.prog X.w X.K X.mg X.base (L2.CX X.prog X.w) j f fd ps (spD Γ.G fn))
    (hs : PySem.W.findIn X.K (.ref (Γ.G.cls ci)) "__eq__" = some (some (.ref f))) (hf : PySem.W.isFn X.K (.ref f) = true) (hb : Binds X.K fd ps []) : OpR X (compareOp .Eq) (rOEq Γ.G ci fn Γ.E) := by
  intro pins s σ H x y u v Q I rx ry h
  obtain ⟨a, b, dx, dy, fs, gs, rfl, rfl, ha, hb', hsp⟩ := h
  cases rx
  cases ry
  obtain ⟨mA, J, _⟩ := ins_get I.hok ha
  obtain ⟨mB, J', _⟩ := ins_get I.hok hb'
  obtain ⟨od, J, _⟩ := J.look
  obtain ⟨od', J', _⟩ := J'.look
  obtain ⟨m, hF⟩ := I.fr
  show wpAny (model X.prog X.w) X.A (richCompare .Eq (.ref a) (.ref b)) (EP X pins σ Q) X.xe s
  refine PySem.W.cmp_K (op := .Eq) (tb := .ref (Γ.G.cls ci)) (by have := c.hu; omega) hF I.ok.mod.kin J J'.type (by simp [PySem.W.notFirst]) hs hf ?_
  refine wpAny_mono (run_fn (Q := fun v H' => (∃ t, v = .bl t) ∧ Q v H') (us := [.ref a, .ref b]) (vs := [.ref a, .ref b]) (dvs := []) (F.mono hj) c.hr hb .nil c.pass I (.cons rfl (.cons rfl .nil)) (by rw [List.append_nil]; exact hsp)) (fun r s' ⟨z, H', I', rz, ⟨t, ez⟩, q⟩ => ?_) fun _ _ x => x
  subst ez
  cases rz
  exact ⟨.bl t, H', I', rfl, q⟩
theorem de_oeq {a b : Expr} {ma mb : EM} {pos : Pos} {f : Addr} {fd : FuncData} {ps : List Str} {fn : List D → M D} {ci : Nat} (c : Cok Γ X k) (hj : j ≤ k) (F : FnOk X.prog X.w X.K X.mg X.base (L2.CX X.prog X.w) j f fd ps (spD Γ.G fn))
    (hs : PySem.W.findIn X.K (.ref (Γ.G.cls ci)) "__eq__" = some (some (.ref f))) (hf : PySem.W.isFn X.K (.ref f) = true) (hb : Binds X.K fd ps []) (ha : DE Γ X a ma) (hbb : DE Γ X b mb) (hm : behindInMarks .Eq b = false) : DE Γ X (.Compare a [.Eq] [b] pos) (mOEq ci fn ma mb) ∧ DT Γ X (.Compare a [.Eq] [b] pos) (mB (mOEq ci fn ma mb)) := by
  have key : ∀ σ H Q, tD Γ (mOEq ci fn ma mb) σ H Q → tOp (rOEq Γ.G ci fn Γ.E) (tD Γ ma) (tD Γ mb) σ H Q := by
    intro σ H Q ⟨ρ, S, F, ft, p⟩
    refine ⟨ρ, S, F, ft, (PostK.bind p).imp fun x S1 F1 H1 g1 p1 v rx => ?_⟩
    have f1 := ft.step g1
    refine ⟨ρ, S1, F1, f1, (PostK.bind p1).imp fun y S2 F2 H2 g2 p2 w ry => ?_⟩
    have f2 := f1.step g2
    have rx2 := rx.mono g2.ext
    cases x <;> cases y <;> try exact p2.elim
    rename_i cc fs dd gs
    have p3 : Post Γ.G Γ.E F2 H2 ((if cc = ci ∧ dd = ci then bnd (fn [.obj cc fs, .obj dd gs]) blOnly else bad) S2) Q := p2
    by_cases h : cc = ci ∧ dd = ci
    · rw [if_pos h] at p3
      obtain ⟨rfl, rfl⟩ := h
      obtain ⟨a, dx, vs, rfl, ha, _⟩ := id rx2
      obtain ⟨b, dy, ws, rfl, hb, _⟩ := id ry
      refine ⟨a, b, dx, dy, _, _, rfl, rfl, f2.le _ _ ha, f2.le _ _ hb, _, F2, S2, .cons rx2 (.cons ry .nil), f2.le, f2.st, (PostK.bind p3).imp fun d S3 F3 H3 g3 p4 u ru => ?_⟩
      cases d <;> try exact p4.elim
      cases ru
      exact ⟨⟨_, rfl⟩, p4 F3 H3 (f2.step g3).refl _ rfl⟩
    · rw [if_neg h] at p3; exact p3.elim
  exact ⟨pe_imp (pe_cmpR (op_oeq c hj F hs hf hb) ha hbb hm) key, pt_imp (pt_cmpR (op_oeq c hj F hs hf hb) ha hbb hm) fun σ H Q h => key _ _ _ (td_asB h)⟩
end
end Dv

/-! DvE: list(enumerate(a list)). -/
namespace Dv
open PySem PySem.Spec L2 PyProof.Rows
theorem nolen_en : typeLookup (.type "enumerate") "__len__" = pure none := by rw [typeLookup_type, builtinLookup_eq_fast]; kernel_rfl
theorem nohint_en : typeLookup (.type "enumerate") "__length_hint__" = pure none := by rw [typeLookup_type, builtinLookup_eq_fast]; kernel_rfl
/-- the pairs (index, item) -/
def enV : Nat → List Value → List (Key × Value)
  | _, [] => []
  | k, v :: vs => (.inl (k : Nat), v) :: enV (k + 1) vs
theorem enV_length : ∀ (vs : List Value) (k : Nat), (enV k vs).length = vs.length
  | [], _ => rfl
  | _ :: vs, k => by simp [enV, enV_length vs]
theorem enV_get : ∀ (vs : List Value) (k i : Nat) (v : Value), vs[i]? = some v → (enV k vs)[i]? = some (.inl ((k + i : Nat) : Int), v)
  | [], _, _, _, h => by simp at h
  | v :: vs, k, 0, d, h => by simp at h; subst h; simp [enV]
  | v :: vs, k, i + 1, d, h => by
    have h2 := enV_get vs (k + 1) i d (by simpa using h)
    have e : k + 1 + i = k + (i + 1) := by omega
    rw [e] at h2
    show (enV (k + 1) vs)[i]? = _
    exact h2
/-- the enumerate object at e as turn i finds it -/
def EnSt (h : Heap) (e it S : Addr) (i : Nat) : Prop := (i = 0 ∧ ∃ old, IsEnum h e it 0 old) ∨ ∃ old T f oT, IsEnumHeld h e it (i : Nat) old T f ∧ h.get? T = some oT ∧ T ≠ e ∧ T ≠ it ∧ T ≠ S
section
variable {prog : Program} {w : World} {A : Around} {R : Result → Shared → Prop}
theorem en_loop {S e it l : Addr} {items : Array Value} (hh : A.handled = none) (h1 : e < S) (h2 : it < S) (hne : e ≠ it) (hle : l ≠ e) (hli : l ≠ it) (hSl : S ≠ l) (hn : items.size ≤ sizeLine) (res : Value) {z : Shared}
    (hR : ∀ h' tk acc c as, (∀ b o, b ≠ S → b ≠ e → b ≠ it → z.heap.get? b = some o → h'.get? b = some o) → h'.get? S = some { cls := .type "list", dict := none, data := .seq acc c, slots := #[] } → as.length = items.size → PySem.W.KdxG (mixKind prog w) (enV 0 items.toList) S h' as →
      acc.toList = as.map Value.ref → R (.ok (.ret res)) { z with heap := h', toks := tk }) :
    ∀ (k i : Nat) (h : Heap) (tk c : Nat) (acc : Array Value) (as : List Addr), items.size - i = k → i ≤ items.size → EnSt h e it S i → h.IsListIter it l i → h.IsList l items → (∀ b o, b ≠ S → b ≠ e → b ≠ it → z.heap.get? b = some o → h.get? b = some o) →
      h.get? S = some { cls := .type "list", dict := none, data := .seq acc c, slots := #[] } → acc.toList = as.map Value.ref → as.length = i → PySem.W.KdxG (mixKind prog w) (enV 0 items.toList) S h as →
      codeAny (model prog w) A (.builtin "list.extend.loop" ⟨[.ref S, .ref e, res], []⟩) R { z with heap := h, toks := tk } := by
  have nSe : S ≠ e := Nat.ne_of_gt h1
  have nSi : S ≠ it := Nat.ne_of_gt h2
  have move : ∀ {h h' : Heap} {as : List Addr}, PySem.W.KdxG (mixKind prog w) (enV 0 items.toList) S h as → (∀ b o, b ≠ S → b ≠ e → b ≠ it → h.get? b = some o → h'.get? b = some o) → PySem.W.KdxG (mixKind prog w) (enV 0 items.toList) S h' as := fun {h h' as} g kp =>
    ⟨g.rise, g.above, fun j a hj => by
      obtain ⟨key, kk, x, e1, e2, e3⟩ := g.pairs j a hj
      have hb := g.above a (List.mem_of_getElem? hj)
      exact ⟨key, kk, x, e1, e2, kp a _ (Nat.ne_of_gt hb) (Nat.ne_of_gt (Nat.lt_trans h1 hb)) (Nat.ne_of_gt (Nat.lt_trans h2 hb)) e3⟩⟩
  intro k
  induction k with
  | zero =>
    intro i h tk c acc as hk hi hst hit hl hkeep hS hacc hal hG
    have hin : i = items.size := by omega
    have hx : items[i]? = none := Array.getElem?_eq_none (by omega)
    refine codeAny_builtin F.entry_extend_loop ?_
    rw [Around.under_plainId F.plain_extend_loop _]
    show wpAny _ A.in1 (pyNext (.ref e) >>= _) _ _ _
    have fin : ∀ h', Heap.ExtBut it h h' → R (.ok (.ret res)) { z with heap := h', toks := tk } := fun h' eb =>
      hR h' tk acc c as (fun b o n1 n2 n3 q => eb b o n3 (hkeep b o n1 n2 n3 q)) (eb S _ nSi hS) (by omega) (move hG fun b o n1 n2 n3 q => eb b o n3 q) hacc
    rcases hst with ⟨_, old, he⟩ | ⟨old, T, f, oT, he, hT, r1, r2, r3⟩
    · have he' : IsEnum h e it (i : Nat) old := by
        rename_i h0
        subst h0
        exact he
      exact wpAny_bind (wpAny_pyNext_enum_end (s := { z with heap := h, toks := tk }) (show A.in1.handled = none from hh) he' hit hl hx fun h' eb => wpAny_pure (fin h' eb))
    · exact wpAny_bind (wpAny_pyNext_enum_end_held (s := { z with heap := h, toks := tk }) (show A.in1.handled = none from hh) he hit hl hx fun h' eb => wpAny_pure (fin h' eb))
  | succ k ih =>
    intro i h tk c acc as hk hi hst hit hl hkeep hS hacc hal hG
    have hlt : i < items.size := by omega
    have hx : items[i]? = some items[i] := by simp [hlt]
    refine codeAny_builtin F.entry_extend_loop ?_
    rw [Around.under_plainId F.plain_extend_loop _]
    show wpAny _ A.in1 (pyNext (.ref e) >>= _) _ _ _
    have accs : acc.size = i := by rw [← Array.length_toList, hacc, List.length_map, hal]
    -- behind an item
    have next : ∀ h' old' T' f', IsEnumHeld h' e it ((i : Int) + 1) old' T' f' → (∃ oT, h'.get? T' = some oT) → T' ≠ e → T' ≠ it → T' ≠ S → h'.IsListIter it l (i + 1) → h'.get? h.objs.size = some { cls := .type "tuple", data := .seq #[.int (i : Nat) tk, items[i]] } →
        (∀ b o, b ≠ e → b ≠ it → h.get? b = some o → h'.get? b = some o) →
        wpAny (model prog w) A.in1 (updateSeq S (·.push (.ref h.objs.size)) >>= fun _ => again (.builtin "list.extend.loop" ⟨[.ref S, .ref e, res], []⟩)) (fun fin s' => match fin with | .done f => R (.ok f) s' | .again c' => c'.quiet = true ∧ codeAny (model prog w) A c' R s') (fun e s' => R (.error e) s') { z with heap := h', toks := tk + 1 } := by
      intro h' old' T' f' he' ⟨oT, hT'⟩ t1 t2 t3 hit' htup kp
      have hS' : h'.get? S = some { cls := .type "list", dict := none, data := .seq acc c, slots := #[] } := kp S _ nSe nSi hS
      have oth : ∀ b o, b ≠ S → h'.get? b = some o → (h'.update S (Obj.mapSeq (·.push (.ref h.objs.size)))).get? b = some o := fun b o hb q => (Heap.get?_update_other _ _ (Ne.symm hb)).trans q
      have hSlt : S < h.objs.size := Heap.lt_size hS
      refine wpAny_bind ?_
      refine wpAny_updateSeq hS' rfl (wpAny_pure ⟨plainId_quiet F.plain_extend_loop _, ?_⟩) (by rw [accs]; omega) (by show (acc.push _).size ≤ sizeLine + 1; rw [Array.size_push, accs]; omega)
      refine ih (i + 1) (h'.update S (Obj.mapSeq (·.push (.ref h.objs.size)))) (tk + 1) _ (acc.push (.ref h.objs.size)) (as ++ [h.objs.size]) (by omega) hlt (.inr ⟨old', T', f', oT, ?_, oth T' _ t3 hT', t1, t2, t3⟩) (hit'.at fun o q => oth it o (Ne.symm nSi) q) ?_ (fun b o n1 n2 n3 q => oth b o n1 (kp b o n2 n3 (hkeep b o n1 n2 n3 q))) (Heap.get?_update_self _ hS' rfl) (by rw [Array.toList_push, hacc]; simp) (by rw [List.length_append, hal]; rfl) ?_
      · have e1 : ((i + 1 : Nat) : Int) = (i : Int) + 1 := by omega
        rw [e1]
        exact oth e _ (Ne.symm nSe) he'
      · exact hl.at fun o q => oth l o (Ne.symm hSl) (kp l o hle hli q)
      · have hG2 := move (h' := h'.update S (Obj.mapSeq (·.push (.ref h.objs.size)))) hG fun b o n1 n2 n3 q => oth b o n1 (kp b o n2 n3 q)
        have below : ∀ a ∈ as, a < h.objs.size := fun a ha => hG.there ha
        refine ⟨List.pairwise_append.mpr ⟨hG2.rise, List.pairwise_singleton _ _, fun a ha b hb => by rw [List.mem_singleton.mp hb]; exact below a ha⟩, fun a ha => ?_, fun j a hj => ?_⟩
        · rcases List.mem_append.mp ha with ha | ha
          · exact hG2.above a ha
          · rw [List.mem_singleton.mp ha]; exact hSlt
        · by_cases hji : j < as.length
          · rw [List.getElem?_append_left hji] at hj
            exact hG2.pairs j a hj
          · rw [List.getElem?_append_right (by omega)] at hj
            obtain ⟨hj0, ea⟩ := List.getElem?_eq_some_iff.mp hj
            have hj1 : j = i := by simp at hj0; omega
            subst hj1
            have ea' : a = h.objs.size := by simpa using ea.symm
            subst ea'
            refine ⟨.int (j : Nat) tk, .inl (j : Nat), items[j], ?_, kV_is ⟨tk, rfl⟩, oth _ _ (Nat.ne_of_gt hSlt) htup⟩
            have q := enV_get items.toList 0 j items[j] (by simp [hlt])
            rw [Nat.zero_add] at q
            exact q
    rcases hst with ⟨h0, old, he⟩ | ⟨old, T, f, oT, he, hT, r1, r2, r3⟩
    · subst h0
      refine wpAny_bind (wpAny_pyNext_enum_item (s := { z with heap := h, toks := tk }) he hit hl hx hne fun h' ho hit' htup hsz kp => ?_)
      have hb : h.objs.size ≠ e ∧ h.objs.size ≠ it ∧ h.objs.size ≠ S := ⟨Nat.ne_of_gt (Heap.lt_size he), Nat.ne_of_gt (by obtain ⟨_, q, _⟩ := hit; exact Heap.lt_size q), Nat.ne_of_gt (Heap.lt_size hS)⟩
      exact next h' _ h.objs.size false ho ⟨_, htup⟩ hb.1 hb.2.1 hb.2.2 hit' htup kp
    · refine wpAny_bind (wpAny_pyNext_enum_item_held (s := { z with heap := h, toks := tk }) he hT r1 r2 hit hl hx hne fun h' ho hit' htup hsz kp => ?_)
      exact next h' _ T true ho ⟨oT, kp T oT r1 r2 hT⟩ r1 r2 r3 hit' htup kp
theorem en_extend {S e it l : Addr} {items : Array Value} {c₀ : Nat} {z : Shared} (hh : A.handled = none) (h1 : e < S) (h2 : it < S) (hne : e ≠ it) (hle : l ≠ e) (hli : l ≠ it) (hSl : S ≠ l) (hn : items.size ≤ sizeLine) (res : Value) (he : ∃ old, IsEnum z.heap e it 0 old) (hit : z.heap.IsListIter it l 0) (hl : z.heap.IsList l items)
    (hS : z.heap.get? S = some { cls := .type "list", data := .seq #[] c₀ })
    (hR : ∀ h' tk acc c as, (∀ b o, b ≠ S → b ≠ e → b ≠ it → z.heap.get? b = some o → h'.get? b = some o) → h'.get? S = some { cls := .type "list", dict := none, data := .seq acc c, slots := #[] } → as.length = items.size → PySem.W.KdxG (mixKind prog w) (enV 0 items.toList) S h' as →
      acc.toList = as.map Value.ref → R (.ok (.ret res)) { z with heap := h', toks := tk }) :
    wpAny (model prog w) A.in1 (Builtin.List.listExtendWith (.ref S) (.ref e) res)
      (fun fin s' => match fin with | .done f => R (.ok f) s' | .again c' => c'.quiet = true ∧ codeAny (model prog w) A c' R s') (fun e s' => R (.error e) s') z := by
  have nSe : S ≠ e := Nat.ne_of_gt h1
  have nSi : S ≠ it := Nat.ne_of_gt h2
  obtain ⟨old, he⟩ := he
  have hT : z.TypeIs (.ref e) "enumerate" := ⟨_, he, rfl⟩
  have go : ∀ (h : Heap) (c₁ : Nat), (∀ b o, b ≠ S → z.heap.get? b = some o → h.get? b = some o) → h.get? S = some { cls := .type "list", data := .seq #[] c₁ } → codeAny (model prog w) A (.builtin "list.extend.loop" ⟨[.ref S, .ref e, res], []⟩) R { z with heap := h, toks := z.toks } := by
    intro h c₁ hk hS₁
    exact en_loop (z := z) hh h1 h2 hne hle hli hSl hn res hR items.size 0 h z.toks c₁ #[] [] (Nat.sub_zero _) (Nat.zero_le _) (.inl ⟨rfl, old, hk e _ (Ne.symm nSe) he⟩) (hit.at fun o q => hk it o (Ne.symm nSi) q) (hl.at fun o q => hk l o (Ne.symm hSl) q) (fun b o n1 _ _ q => hk b o n1 q) hS₁ rfl rfl
      ⟨List.Pairwise.nil, (fun _ ha => nomatch ha), (fun j a hj => by simp at hj)⟩
  unfold Builtin.List.listExtendWith
  refine wpAny_bind (wpAny_typeOf hT ?_)
  have k1 : Builtin.List.listSameRef (.ref S) (.ref e) = false := by simp [Builtin.List.listSameRef, nSe]
  have k2 : (Value.type "enumerate" == Value.type "list") = false := by decide
  have k3 : (Value.type "enumerate" == Value.type "tuple") = false := by decide
  simp only [k1, k2, k3, Bool.or_false, Bool.false_eq_true, if_false]
  refine wpAny_bind (wpAny_pyIter_enum he ?_)
  refine wpAny_bind (wpAny_holding ?_)
  unfold Builtin.List.listLengthHint
  refine wpAny_bind (wpAny_specialOf hT nolen_en ?_)
  show wpAny _ A.in1 (specialOf (Value.ref e) (Str.ofString "__length_hint__") >>= _) _ _ _
  refine wpAny_bind (wpAny_specialOf hT nohint_en ?_)
  refine wpAny_pure ?_
  refine wpAny_ite_split (fun _ => ?_) (fun _ => wpAny_pure ⟨plainId_quiet F.plain_extend_loop _, go _ c₀ (fun b o _ q => q) hS⟩)
  refine wpAny_bind (wpAny_rule ?_)
  refine wpAny_bind ?_
  show wpAny _ _ (updateSeq S (·.push .none) >>= fun _ => updateSeq S (·.pop)) _ _ _
  refine wpAny_bind (wpAny_updateSeq hS rfl ?_)
  have hS₂ := Heap.get?_update_self (Obj.mapSeq (·.push Value.none)) hS rfl
  refine wpAny_updateSeq (hz := by seq_fits) hS₂ rfl ?_
  have hS₃ := Heap.get?_update_self (Obj.mapSeq (·.pop)) hS₂ rfl
  exact wpAny_pure ⟨plainId_quiet F.plain_extend_loop _, go _ _ (fun b o hb q => (Heap.get?_update_other _ _ (Ne.symm hb)).trans ((Heap.get?_update_other _ _ (Ne.symm hb)).trans q)) hS₃⟩
theorem en_init {S e it l : Addr} {items : Array Value} {z : Shared} (hh : A.handled = none) (h1 : e < S) (h2 : it < S) (hne : e ≠ it) (hle : l ≠ e) (hli : l ≠ it) (hSl : S ≠ l) (hn : items.size ≤ sizeLine) (he : ∃ old, IsEnum z.heap e it 0 old) (hit : z.heap.IsListIter it l 0) (hl : z.heap.IsList l items)
    (hS : z.heap.get? S = some { cls := .type "list", data := .seq #[] })
    (hR : ∀ h' tk acc c as, (∀ b o, b ≠ S → b ≠ e → b ≠ it → z.heap.get? b = some o → h'.get? b = some o) → h'.get? S = some { cls := .type "list", dict := none, data := .seq acc c, slots := #[] } → as.length = items.size → PySem.W.KdxG (mixKind prog w) (enV 0 items.toList) S h' as →
      acc.toList = as.map Value.ref → R (.ok (.ret .none)) { z with heap := h', toks := tk }) :
    wpAny (model prog w) A.in1 (Builtin.«list.__init__» ⟨[.ref S, .ref e], []⟩)
      (fun fin s' => match fin with | .done f => R (.ok f) s' | .again c' => c'.quiet = true ∧ codeAny (model prog w) A c' R s') (fun e s' => R (.error e) s') z := by
  have nSe : S ≠ e := Nat.ne_of_gt h1
  have nSi : S ≠ it := Nat.ne_of_gt h2
  show wpAny _ _ (do let old ← Builtin.List.listItems (.ref S); Builtin.List.listUpdate (.ref S) (fun _ => #[]); letGo old.toList.reverse; Builtin.List.listExtendWith (.ref S) (.ref e) .none) _ _ z
  refine wpAny_bind ?_
  unfold Builtin.List.listItems
  refine wpAny_bind (wpAny_seqItems hS rfl (wpAny_pure ?_))
  show wpAny _ _ (updateSeq S (fun _ => #[]) >>= fun _ => letGo (#[] : Array Value).toList.reverse >>= fun _ => Builtin.List.listExtendWith (.ref S) (.ref e) .none) _ _ z
  refine wpAny_bind (wpAny_updateSeq hS rfl ?_)
  have hS₂ := Heap.get?_update_self (Obj.mapSeq (fun _ => (#[] : Array Value))) hS rfl
  have oth : ∀ b o, b ≠ S → z.heap.get? b = some o → (z.heap.update S (Obj.mapSeq (fun _ => (#[] : Array Value)))).get? b = some o := fun b o hb q => (Heap.get?_update_other _ _ (Ne.symm hb)).trans q
  refine wpAny_bind (wpAny_letGo ?_)
  obtain ⟨old, he⟩ := he
  exact en_extend hh h1 h2 hne hle hli hSl hn .none ⟨old, oth e _ (Ne.symm nSe) he⟩ (hit.at fun o q => oth it o (Ne.symm nSi) q) (hl.at fun o q => oth l o (Ne.symm hSl) q) hS₂ fun h' tk acc c as hk a1 a2 a3 a4 => hR h' tk acc c as (fun b o n1 n2 n3 q => hk b o n1 n2 n3 (oth b o n1 q)) a1 a2 a3 a4
theorem call_listEn {E : Value → Shared → Prop} {Q : Value → Shared → Prop} {e it l : Addr} {items : Array Value} {z : Shared} (hh : A.handled = none) (hne : e ≠ it) (hle : l ≠ e) (hli : l ≠ it) (hn : items.size ≤ sizeLine) (he : ∃ old, IsEnum z.heap e it 0 old) (hit : z.heap.IsListIter it l 0) (hl : z.heap.IsList l items)
    (hQ : ∀ h' tk acc c as, (∀ b o, b ≠ e → b ≠ it → z.heap.get? b = some o → h'.get? b = some o) → h'.get? z.heap.objs.size = some { cls := .type "list", dict := none, data := .seq acc c, slots := #[] } → as.length = items.size → PySem.W.KdxG (mixKind prog w) (enV 0 items.toList) z.heap.objs.size h' as →
      acc.toList = as.map Value.ref → Q (.ref z.heap.objs.size) { z with heap := h', toks := tk }) :
    wpAny (model prog w) A (call (.type "list") [.ref e]) Q E z := by
  refine callType_codes (Q₁ := fun obj s₁ => obj = .ref z.heap.objs.size ∧ s₁ = { z with heap := z.heap.push { cls := .type "list", data := .seq #[] } }) F.called_list (F.typeCall_list_1 _) F.entry_list_init
    (code_list_new _ ⟨rfl, rfl⟩) fun obj s₁ h₁ => ?_
  obtain ⟨rfl, rfl⟩ := h₁
  have hS : (z.heap.push { cls := .type "list", data := .seq #[] }).get? z.heap.objs.size = some { cls := .type "list", data := .seq #[] } := Heap.get?_push_size _ rfl
  obtain ⟨old, he⟩ := he
  have el : e < z.heap.objs.size := Heap.lt_size he
  have il : it < z.heap.objs.size := by obtain ⟨_, q, _⟩ := id hit; exact Heap.lt_size q
  have ll : l < z.heap.objs.size := by obtain ⟨_, q, _⟩ := id hl; exact Heap.lt_size q
  refine ⟨⟨_, hS, rfl⟩, F.args_list_init_2 _ _, en_init (A := A.in1) hh el il hne hle hli (Nat.ne_of_gt ll) hn ⟨old, Heap.get?_push_of_some _ he⟩ (hit.at fun o q => Heap.get?_push_of_some _ q) (hl.at fun o q => Heap.get?_push_of_some _ q) hS fun h' tk acc c as hk a1 a2 a3 a4 => ?_⟩
  exact ⟨rfl, hQ h' tk acc c as (fun b o n1 n2 q => hk b o (Nat.ne_of_lt (Heap.lt_size q)) n1 n2 (Heap.get?_push_of_some _ q)) a1 a2 a3 a4⟩
end
theorem push_freed {h : Heap} {c : Value} {b : Addr} {o : Obj} (q : (h.push { cls := c, data := .freed }).get? b = some o) : h.get? b = some o := by
  obtain ⟨objs, l⟩ := h
  unfold Heap.get? at q ⊢
  by_cases hb : b < objs.size
  · have e : (Heap.push ⟨objs, l⟩ { cls := c, data := .freed }).objs[b]? = objs[b]? := by
      show (objs.push _)[b]? = _
      rw [Array.getElem?_push]
      rw [if_neg (Nat.ne_of_lt hb)]
    rw [e] at q
    exact q
  · by_cases hb2 : b = objs.size
    · subst hb2
      have e : (Heap.push ⟨objs, l⟩ { cls := c, data := .freed }).objs[objs.size]? = some { cls := c, data := .freed } := by
        show (objs.push _)[objs.size]? = _
        simp
      rw [e] at q
      cases q
    · have e : (Heap.push ⟨objs, l⟩ { cls := c, data := .freed }).objs[b]? = none := by
        show (objs.push _)[b]? = _
        exact Array.getElem?_eq_none (by rw [Array.size_push]; exact Nat.lt_of_le_of_ne (Nat.le_of_not_lt hb) (Ne.symm hb2))
      rw [e] at q
      cases q
/-- list(enumerate(x)), x a list -/
def dLEn : D → Option D
  | .lst xs => if xs.length ≤ sizeLine then some (.lst (enumD 0 xs)) else none
  | _ => none
def enK : Nat → List V → List (Key × V)
  | _, [] => []
  | k, v :: vs => (.inl (k : Nat), v) :: enK (k + 1) vs
theorem enK_kv : ∀ {vs : List V} {us : List Value} (k : Nat), Vals vs us → KV (enK k vs) (enV k us)
  | _, _, _, .nil => .nil
  | _, _, k, .cons r t => .cons ⟨rfl, r⟩ (enK_kv (k + 1) t)
theorem rep_en {G : Gh} {F : Hp} {H' : Hp} (le : Same F H') : ∀ {xs : List D} {vs : List V} {ts : List Addr} (k : Nat), RepL G F xs vs → Paired (fun (t : Addr) (q : Key × V) => H' t = some (.tup [kV q.1, q.2])) ts (enK k vs) → RepL G (fun b => if b ∈ ts then H' b else F b) (enumD k xs) (ts.map V.ref)
  | [], vs, ts, k, r, p => by
    cases (show vs = [] from r)
    cases p
    exact .nil
  | x :: xs, _, _, k, ⟨v, ws, e, r1, r2⟩, p => by
    subst e
    cases p with
    | @cons t q ts qs h tl =>
      have ih := rep_en le (k + 1) r2 tl
      have sm : ∀ {A B : Hp}, Same A H' → Same B H' → True := fun _ _ => trivial
      have up : Same F (fun b => if b ∈ t :: ts then H' b else F b) := fun a o e => by
        show (if a ∈ t :: ts then H' a else F a) = some o
        by_cases hb : a ∈ t :: ts
        · rw [if_pos hb]; exact le a o e
        · rw [if_neg hb]; exact e
      have up2 : Same (fun b => if b ∈ ts then H' b else F b) (fun b => if b ∈ t :: ts then H' b else F b) := fun a o e => by
        have e' : (if a ∈ ts then H' a else F a) = some o := e
        show (if a ∈ t :: ts then H' a else F a) = some o
        by_cases hb : a ∈ ts
        · rw [if_pos hb] at e'
          rw [if_pos (List.mem_cons_of_mem _ hb)]
          exact e'
        · rw [if_neg hb] at e'
          by_cases hc : a ∈ t :: ts
          · rw [if_pos hc]; exact le a o e'
          · rw [if_neg hc]; exact e'
      refine .cons ⟨t, [.int (k : Nat), v], rfl, .inl (.inl ?_), .cons (by simp [Rep]) (.cons (r1.mono up) .nil)⟩ (ih.mono up2)
      show (if t ∈ t :: ts then H' t else F t) = _
      rw [if_pos List.mem_cons_self]
      exact h
section
variable {Γ : Gam} {X : Cx} {k : Nat}
theorem de_listEnum {e : Expr} {m : EM} {p p2 pos pos2 : Pos} (c : Cok Γ X k) (hg : Gl X "list") (hm : X.mg "list" = none) (hg2 : Gl X "enumerate") (hm2 : X.mg "enumerate" = none) (h : DE Γ X e m)
    (hs : starEach [.Call (.Name "enumerate" p2) [e] [] pos2] X.env = (false, eval (.Call (.Name "enumerate" p2) [e] [] pos2) X.env) :: starEach [] X.env := by rfl) (hs2 : starEach [e] X.env = (false, eval e X.env) :: starEach [] X.env := by rfl) :
    DE Γ X (.Call (.Name "list" p) [.Call (.Name "enumerate" p2) [e] [] pos2] [] pos) (m1 dLEn m) := by
  refine ⟨fun pins s σ H Q I hq => ?_⟩
  have h2 : tD Γ m σ H fun v H1 => ∃ ρ S F xs a vs, v = .ref a ∧ Fit Γ ρ S F σ H1 ∧ F a = some (.lst vs) ∧ RepL Γ.G F xs vs ∧ xs.length ≤ sizeLine ∧ Post Γ.G Γ.E F H1 (ret (.lst (enumD 0 xs)) S) Q := by
    refine td_bind (f := fun _ x => ofO (dLEn x)) hq fun ρ S F v x H1 ft rx pp => ?_
    cases x <;> try exact pp.elim
    rename_i xs
    have pp' : Post Γ.G Γ.E F H1 (ofO (if xs.length ≤ sizeLine then some (.lst (enumD 0 xs)) else none) S) Q := pp
    by_cases hz : xs.length ≤ sizeLine
    · rw [if_pos hz] at pp'
      obtain ⟨a, vs, rfl, ha, r⟩ := rx
      exact ⟨ρ, S, F, xs, a, vs, rfl, ft, ha, r, hz, pp'⟩
    · rw [if_neg hz] at pp'; exact pp'.elim
  refine wpAny_Call_Name_kw (ld_blt I hg hm boot_list ?_)
  refine PyProof.Rows.callWith_type1 ?_ hs rfl
  rw [hs]
  show wpAny _ _ (spliced ((false, eval (.Call (.Name "enumerate" p2) [e] [] pos2) X.env) :: backTo pos (starEach [] X.env))) _ _ s
  refine Calls.spliced_cons ?_
  refine Call_ (ld_blt I hg2 hm2 boot_enumerate (PyProof.Rows.callWith_type1 (one_arg h I h2 (fun v s1 x H1 I1 r1 q1 => ?_) hs2) hs2 rfl))
  obtain ⟨ρ, S, F, xs, a, vs, rfl, ft, ha, r, hz, pp⟩ := q1
  cases r1
  obtain ⟨its, rv, pl, hz2⟩ := I1.list (show SqL X.K H1 a vs from .inl (.inl (ft.le _ _ ha)))
  have la : a < s1.heap.objs.size := by obtain ⟨_, q, _⟩ := id pl.isList; exact Heap.lt_size q
  have hlen : its.length = xs.length := by rw [← rv.length, r.length]
  refine call_enumerate_list pl.isList fun h1 he hit hsz hk1 => ?_
  refine Calls.spliced_nil ?_
  have I2 : Inv X pins σ H1 { s1 with heap := h1 } := I1.kept (t' := s1.toks) hk1
  refine call_listEn (z := { s1 with heap := h1 }) (I1.ok.hd c.calm) (Nat.succ_ne_self _) (Nat.ne_of_lt (Nat.lt_succ_of_lt la)) (Nat.ne_of_lt la) (by rw [List.size_toArray, hlen]; exact hz) ⟨_, he⟩ hit (pl.isList.at fun o q => hk1 a o q) fun h' tk acc cc as hk hS hl hG hacc => ?_
  have sz0 : ((s1.heap.push { cls := .none, data := .freed }).push { cls := .none, data := .freed }).objs.size = h1.objs.size := by
    rw [hsz]
    show ((s1.heap.objs.push _).push _).size = _
    rw [Array.size_push, Array.size_push]
  have I0 : Inv X pins σ H1 { s1 with heap := (s1.heap.push { cls := .none, data := .freed }).push { cls := .none, data := .freed } } := I1.kept (t' := s1.toks) fun b o q => Heap.get?_push_of_some _ (Heap.get?_push_of_some _ q)
  have hk0 : ∀ b o, ((s1.heap.push { cls := .none, data := .freed }).push { cls := .none, data := .freed }).get? b = some o → h'.get? b = some o := fun b o q => by
    have q1 := push_freed (push_freed q)
    have lb := Heap.lt_size q1
    exact hk b o (Nat.ne_of_lt (Nat.lt_succ_of_lt lb)) (Nat.ne_of_lt lb) (hk1 b o q1)
  have lE : (enK 0 vs).length ≤ sizeLine := by
    rw [Paired.length (enK_kv 0 rv), enV_length, hlen]; exact hz
  obtain ⟨H', k1, k2, k3, k4, k5, k6, J⟩ := LiI.items_laid (X := X) (tk := tk) (c := cc) I0 lE (enK_kv 0 rv) hk0 (by show h'.get? _ = _; rw [sz0]; exact hS) (by rw [enV_length]; rw [hl]; simp) (by show PySem.W.KdxG _ _ (Heap.objs _).size h' as; rw [sz0]; exact hG) hacc
  have sz1 : ({ s1 with heap := (s1.heap.push { cls := .none, data := .freed }).push { cls := .none, data := .freed } } : Shared).heap.objs.size = h1.objs.size := sz0
  rw [sz1] at k2 k4 k5
  have leF : Same F H' := fun b o q => k1 b o (ft.le b o q)
  let F' : Hp := fun b => if b = h1.objs.size then H' b else if b ∈ as then H' b else F b
  have s1' : Same F F' := fun b o q => by
    show (if b = h1.objs.size then H' b else if b ∈ as then H' b else F b) = some o
    by_cases hb : b = h1.objs.size
    · rw [if_pos hb]; exact leF b o q
    · rw [if_neg hb]
      by_cases hb2 : b ∈ as
      · rw [if_pos hb2]; exact leF b o q
      · rw [if_neg hb2]; exact q
  have inF : ∀ {b o}, F' b = some o → F b = some o ∨ H1 b = none := fun {b o} q => by
    have q' : (if b = h1.objs.size then H' b else if b ∈ as then H' b else F b) = some o := q
    by_cases hb : b = h1.objs.size
    · rw [hb]; exact .inr k2
    · rw [if_neg hb] at q'
      by_cases hb2 : b ∈ as
      · exact .inr (k3 b hb2)
      · rw [if_neg hb2] at q'; exact .inl q'
  have noF : ∀ {b o}, H1 b = some o → F b = none → F' b = none := fun {b o} q n => by
    cases e : F' b with
    | none => rfl
    | some u => rcases inF e with z | z
                · rw [n] at z; cases z
                · rw [q] at z; cases z
  have go : Go Γ.G F H1 S F' H' := by
    refine ⟨fun b o q => ?_, fun hs => ?_, s1', fun b o q _ => k1 b o q, fun b o q => inF q, fun b q => ?_⟩
    · have q' : (if b = h1.objs.size then H' b else if b ∈ as then H' b else F b) = some o := q
      by_cases hb : b = h1.objs.size
      · rw [if_pos hb] at q'; exact q'
      · rw [if_neg hb] at q'
        by_cases hb2 : b ∈ as
        · rw [if_pos hb2] at q'; exact q'
        · rw [if_neg hb2] at q'; exact leF b o q'
    · obtain ⟨g1, g2, g3, g4, g5, g6, g7⟩ := ft.st hs
      exact ⟨k1 _ _ g1, k1 _ _ g2, k1 _ _ g3, noF g1 g4, noF g2 g5, s1' _ _ g6, g7⟩
    · cases e : H1 b with
      | none => rfl
      | some u => rw [k1 b u e] at q; cases q
  have eL : F' h1.objs.size = some (.lst (as.map V.ref)) := by
    show (if h1.objs.size = h1.objs.size then H' h1.objs.size else _) = _
    rw [if_pos rfl]; exact k5
  have up : Same (fun b => if b ∈ as then H' b else F b) F' := fun b o q => by
    have q' : (if b ∈ as then H' b else F b) = some o := q
    show (if b = h1.objs.size then H' b else if b ∈ as then H' b else F b) = some o
    by_cases hb : b = h1.objs.size
    · rw [if_pos hb]
      by_cases hb2 : b ∈ as
      · rw [if_pos hb2] at q'; exact q'
      · rw [if_neg hb2] at q'; exact leF b o q'
    · rw [if_neg hb]; exact q'
  have rr : Rep Γ.G F' (.lst (enumD 0 xs)) (.ref h1.objs.size) := ⟨h1.objs.size, as.map V.ref, rfl, eL, (rep_en leF 0 r k6).mono up⟩
  exact ⟨.ref h1.objs.size, H', J, rfl, pp F' H' go _ rr⟩
end
end Dv

/-! Dv9: promises without a function object; facts by names. -/
namespace Dv
open PySem PySem.Spec L2
section
variable {P : Program} {w : World} {K : PySem.W.Frag} {mg : Str → Option Value} {base : Heap}
/-- f keeps sp, its parameters all written -/
def Ok (P : Program) (w : World) (K : PySem.W.Frag) (mg : Str → Option Value) (base : Heap) (k : Nat) (f : Addr) (ps : List Str) (sp : Sp) : Prop := ∃ fd, FnOk P w K mg base (L2.CX P w) k f fd ps sp ∧ Binds K fd ps [] ∧ ∃ oc od osl, K.lookup f = some ⟨oc, od, .func fd, osl⟩
/-- a def of the text -/
def Df (K : PySem.W.Frag) (f : Addr) (x qual : Str) (st : Stmt) : Prop := ∃ fd, FunD K x qual (defArgs st) (defBody st) (defScope st) [] [] f fd
/-- how a def without defaults binds -/
def BindN (x qual : Str) (st : Stmt) (ps : List Str) : Prop := ∀ (kV doc pm : Value) (an : Option Addr) (cdv ct : Value) (us : List Value), us.length = ps.length → bindArgs (PySem.W.fnOf x qual (defArgs st) (defBody st) (defScope st) .none kV doc pm an cdv ct) ⟨us, []⟩ = pure (ps.zip us)
theorem lk_of {x qual : Str} {params : Arguments} {body : List Stmt} {scope : Scope} {dvs : List V} {kws : List (Str × V)} {f : Addr} {fd : FuncData} (D : FunD K x qual params body scope dvs kws f fd) : ∃ oc od osl, K.lookup f = some ⟨oc, od, .func fd, osl⟩ := by
  obtain ⟨oc, od, dV, kV, doc, pm, an, cdv, ct, osl, rfl, lk, _⟩ := D.ex
  exact ⟨oc, od, osl, lk⟩
theorem ok_def {G : Gh} {N ps : List Str} {k : Nat} {b : SM} {f : Addr} {x qual : Str} {st : Stmt} (D : Df K f x qual st) (Sc : FnScope N ps (defScope st)) (hB : BindN x qual st ps) (hK : G.K = K) (hl : ps.length ≤ N.length)
    (hb : ∀ (cdv : Value) (A : Around) (outer : List Env) (s : Shared) (F H : Hp) (E : XK), Cok ⟨G, F, H, E, 0⟩ (cxD P w K mg base N qual (defScope st) f cdv A outer s H E) k → DSs ⟨G, F, H, E, 0⟩ (cxD P w K mg base N qual (defScope st) f cdv A outer s H E) (defBody st) b) :
    Ok P w K mg base (k + 1) f ps (spD G (dn ps.length N.length b)) := by
  obtain ⟨fd, D⟩ := D
  exact ⟨fd, def_ok D Sc hK hl hb, D.bindsN hB, lk_of D⟩
theorem ok_init {G : Gh} {N ps : List Str} {k ci : Nat} {b : SM} {f : Addr} {x qual : Str} {st : Stmt} (D : Df K f x qual st) (Sc : FnScope N ("self" :: ps) (defScope st)) (hB : BindN x qual st ("self" :: ps)) (hK : G.K = K) (hl : ps.length + 1 ≤ N.length)
    (hb : ∀ (cdv : Value) (A : Around) (outer : List Env) (s : Shared) (F H H1 : Hp) (E : XK) (slf : Addr), Cok ⟨G, F, H1, E, slf⟩ (cxD P w K mg base N qual (defScope st) f cdv A outer s H E) k → DSs ⟨G, F, H1, E, slf⟩ (cxD P w K mg base N qual (defScope st) f cdv A outer s H E) (defBody st) b)
    (hfull : ∀ ρ S ρ' S', b ρ S = (.ok (.nx ρ'), S') → ∀ c fs, ρ'[0]? = some (.ini c fs) → c = ci ∧ fs.length = (G.fld ci).length) : Ok P w K mg base (k + 1) f ("self" :: ps) (spI G ci (dnI ci ps.length N.length b)) := by
  obtain ⟨fd, D⟩ := D
  exact ⟨fd, init_ok D Sc hK hl hb hfull, D.bindsN hB, lk_of D⟩
end
section
variable {Γ : Gam} {X : Cx} {j k : Nat}
theorem dc_call {x : Str} {p pos : Pos} {e : Expr} {es : List Expr} {f : Addr} {ps : List Str} {fn : List D → M D} {m : Rho → M (List D)} (c : Cok Γ X k) (hj : j ≤ k) (F : Ok X.prog X.w X.K X.mg X.base j f ps (spD Γ.G fn))
    (hg : Gl X x) (hm : X.mg x = some (.ref f)) (hk : PySem.W.keepIn X.K (.ref f) = true) (ha : DA Γ X (e :: es) m) (hdb : (x == ("__debug__" : Str)) = false := by decide)
    (he : starEach (e :: es) X.env = (false, eval e X.env) :: starEach es X.env := by rfl) (hpl : (backTo pos (starEach es X.env)).any (·.1) = false := by rfl) : DE Γ X (.Call (.Name x p) (e :: es) [] pos) (mCall fn m) := by
  obtain ⟨fd, F, hb, _⟩ := F
  exact de_call c hj F hg hm hk hb ha hdb he hpl
theorem dc_meth {pl : Sem Bool} {o e : Expr} {es : List Expr} {mt : Str} {apos pos : Pos} {f : Addr} {ps : List Str} {fn : List D → M D} {ci : Nat} {mo : EM} {m : Rho → M (List D)} (c : Cok Γ X k) (hj : j ≤ k) (F : Ok X.prog X.w X.K X.mg X.base j f ps (spD Γ.G fn))
    (hcl : Cls X.K (Γ.G.cls ci)) (hm : Meth X.K (Γ.G.cls ci) mt f) (hf : mt ∉ Γ.G.fld ci) (ho : DE Γ X o mo) (ha : DA Γ X (e :: es) m)
    (hst : starEach (e :: es) X.env = (false, eval e X.env) :: starEach es X.env := by rfl) (hpl : (backTo pos (starEach es X.env)).any (·.1) = false := by rfl)
    (ht : eval (.Call (.Attribute o mt apos) (e :: es) [] pos) X.env = (do
      let ov ← eval o X.env
      standAt apos.atName
      let (f, first) ← holding [ov] (getMethod ov mt pl)
      callWith pos f first (backTo pos (starEach (e :: es) X.env)) (backToKw pos (keywordEach [] X.env))) := by rfl) : DE Γ X (.Call (.Attribute o mt apos) (e :: es) [] pos) (mMeth ci fn mo m) := by
  obtain ⟨fd, F, hb, _⟩ := F
  exact de_meth c hj F hcl hm hf hb ho ha hst hpl ht
theorem dc_meth0 {pl : Sem Bool} {o : Expr} {mt : Str} {apos pos : Pos} {f : Addr} {ps : List Str} {fn : List D → M D} {ci : Nat} {mo : EM} (c : Cok Γ X k) (hj : j ≤ k) (F : Ok X.prog X.w X.K X.mg X.base j f ps (spD Γ.G fn))
    (hcl : Cls X.K (Γ.G.cls ci)) (hm : Meth X.K (Γ.G.cls ci) mt f) (hf : mt ∉ Γ.G.fld ci) (ho : DE Γ X o mo)
    (ht : eval (.Call (.Attribute o mt apos) [] [] pos) X.env = (do
      let ov ← eval o X.env
      standAt apos.atName
      let (f, first) ← holding [ov] (getMethod ov mt pl)
      callWith pos f first (backTo pos (starEach [] X.env)) (backToKw pos (keywordEach [] X.env))) := by rfl) : DE Γ X (.Call (.Attribute o mt apos) [] [] pos) (mMeth ci fn mo mNil) := by
  obtain ⟨fd, F, hb, _⟩ := F
  exact de_meth0 c hj F hcl hm hf hb ho ht
theorem dc_prop {o : Expr} {pr : Str} {pos : Pos} {pp g : Addr} {ps : List Str} {fn : List D → M D} {ci : Nat} {mo : EM} (c : Cok Γ X k) (hj : j + 1 ≤ k) (F : Ok X.prog X.w X.K X.mg X.base j g ps (spD Γ.G fn))
    (hcl : Cls X.K (Γ.G.cls ci)) (hp : PropOf X.K (Γ.G.cls ci) pr pp g) (ho : DE Γ X o mo) (hab : attributeBase o pr X.env (eval o X.env) = eval o X.env := by rfl) : DE Γ X (.Attribute o pr pos) (mProp ci fn mo) := by
  obtain ⟨fd, F, hb, _⟩ := F
  exact de_prop c hj F hcl hp hb ho hab
theorem dc_make {x : Str} {p pos : Pos} {e : Expr} {es : List Expr} {f : Addr} {ps : List Str} {ci : Nat} {fn : List D → M (List D)} {m : Rho → M (List D)} (c : Cok Γ X k) (hj : j + 1 ≤ k) (Mk : L2.Mk X.K (Γ.G.cls ci) f) (F : Ok X.prog X.w X.K X.mg X.base j f ps (spI Γ.G ci fn))
    (hg : Gl X x) (hm : X.mg x = some (.ref (Γ.G.cls ci))) (ha : DA Γ X (e :: es) m) (hdb : (x == ("__debug__" : Str)) = false := by decide)
    (he : starEach (e :: es) X.env = (false, eval e X.env) :: starEach es X.env := by rfl) (hpl : (backTo pos (starEach es X.env)).any (·.1) = false := by rfl) : DE Γ X (.Call (.Name x p) (e :: es) [] pos) (mMake ci fn m) := by
  obtain ⟨fd, F, hb, _⟩ := F
  exact de_make c hj Mk F hg hm hb ha hdb he hpl
theorem dc_oeq {a b : Expr} {ma mb : EM} {pos : Pos} {f : Addr} {ps : List Str} {fn : List D → M D} {ci : Nat} (c : Cok Γ X k) (hj : j ≤ k) (F : Ok X.prog X.w X.K X.mg X.base j f ps (spD Γ.G fn))
    (hm2 : Meth X.K (Γ.G.cls ci) "__eq__" f) (ha : DE Γ X a ma) (hbb : DE Γ X b mb) (hm : behindInMarks .Eq b = false) : DT Γ X (.Compare a [.Eq] [b] pos) (mB (mOEq ci fn ma mb)) := by
  obtain ⟨fd, F, hb, _⟩ := F
  exact (de_oeq c hj F hm2.at_ hm2.fn hb ha hbb hm).2
end
end Dv

/-! Dv9b: small things that the printed texts use. -/
namespace Dv
open PySem PySem.Spec L2
/-- the getter behind a property -/
def pa (K : PySem.W.Frag) (C : Addr) (m : Str) : Addr := match PySem.W.recIn K (He.ma K C m) "property" with
  | some (.ref g :: _) => g
  | _ => 0
def Full (ci n : Nat) (b : SM) : Prop := ∀ ρ S ρ' S', b ρ S = (.ok (.nx ρ'), S') → ∀ c fs, ρ'[0]? = some (.ini c fs) → c = ci ∧ fs.length = n
theorem full_seq {ci n : Nat} {a b : SM} (h : Full ci n b) : Full ci n (sSeq a b) := by
  intro ρ S ρ' S' e
  unfold sSeq bnd at e
  generalize a ρ S = r at e
  obtain ⟨r, S1⟩ := r
  cases r with
  | ok f =>
    cases f with
    | nx ρ1 => exact h ρ1 S1 ρ' S' e
    | rt d => cases e
    | bk ρ1 => cases e
    | ct ρ1 => cases e
  | exc x => cases e
  | bad => cases e
theorem full_ini {ci n : Nat} {fl : Nat → List Str} {f : Str} {m : EM} (hn : (fl ci).Nodup) (hl : (fl ci).length = n) (hf : (fl ci)[n - 1]? = some f) : Full ci n (sIni ci fl f m) := by
  intro ρ S ρ' S' e c fs q
  unfold sIni bnd at e
  generalize m ρ S = r at e
  obtain ⟨r, S1⟩ := r
  cases r with
  | ok d =>
    dsimp only at e
    cases q0 : (ρ[(0 : Nat)]? : Option Sl) with
    | none => rw [q0] at e; cases e
    | some t =>
      rw [q0] at e
      cases t with
      | ini c0 fs0 =>
        dsimp only at e
        by_cases hc : c0 = ci ∧ (fl ci)[fs0.length]? = some f
        · rw [if_pos hc] at e
          cases e
          have hl0 : 0 < ρ.length := (List.getElem?_eq_some_iff.mp q0).1
          rw [List.getElem?_set_self hl0] at q
          cases q
          refine ⟨hc.1, ?_⟩
          obtain ⟨h1, e1⟩ := List.getElem?_eq_some_iff.mp hc.2
          obtain ⟨h2, e2⟩ := List.getElem?_eq_some_iff.mp hf
          rw [List.length_append, List.length_singleton]
          have key : ∀ i j : Nat, ∀ (hi : i < (fl ci).length) (hj : j < (fl ci).length), i < j → (fl ci)[i] = (fl ci)[j] → False := fun i j hi hj hij e => absurd e (List.pairwise_iff_getElem.mp hn i j hi hj hij)
          rcases Nat.lt_trichotomy fs0.length (n - 1) with hlt | he | hgt
          · exact (key _ _ h1 h2 hlt (e1.trans e2.symm)).elim
          · omega
          · exact (key _ _ h2 h1 hgt (e2.trans e1.symm)).elim
        · rw [if_neg hc] at e; cases e
      | _ => cases e
  | exc x => cases e
  | bad => cases e
/-- a promise that asks nothing -/
theorem fn_bad {P : Program} {w : World} {K : PySem.W.Frag} {mg : Str → Option Value} {base : Heap} {CX : CXT} {k : Nat} {f : Addr} {fd : FuncData} {ps : List Str} {G : Gh} : FnOk P w K mg base CX k f fd ps (spD G fun _ => bad) :=
  ⟨fun vs H Q E ⟨ds, F, S, r, le, st, p⟩ => p.elim, fun A outer s H args us vs Q E hr e0 hb rv ⟨ds, F, S, r, le, st, p⟩ => p.elim⟩
section
variable {Γ : Gam} {X : Cx} {j k : Nat}
/-- a method that is called by keyword -/
def OkK (P : Program) (w : World) (K : PySem.W.Frag) (mg : Str → Option Value) (base : Heap) (k : Nat) (f : Addr) (ps : List Str) (n : Nat) (ks : List Str) (sp : Sp) : Prop := ∃ fd, FnOk P w K mg base (L2.CX P w) k f fd ps sp ∧ KBn K fd ps n ks (fun us ws => us ++ ws) (fun us ws => us ++ ws)
theorem okK_of {P : Program} {w : World} {K : PySem.W.Frag} {mg : Str → Option Value} {base : Heap} {k : Nat} {f : Addr} {ps : List Str} {n : Nat} {ks : List Str} {sp : Sp} {x qual : Str} {st : Stmt} (h : Ok P w K mg base k f ps sp) (D : Df K f x qual st)
    (hb : ∀ (kV doc pm : Value) (an : Option Addr) (cdv ct : Value) (us ws : List Value), us.length = n → ws.length = ks.length → bindArgs (PySem.W.fnOf x qual (defArgs st) (defBody st) (defScope st) .none kV doc pm an cdv ct) ⟨us, ks.zip ws⟩ = pure (ps.zip (us ++ ws))) : OkK P w K mg base k f ps n ks sp := by
  obtain ⟨fd, F, _, oc, od, osl, lk⟩ := h
  obtain ⟨fd2, D2⟩ := D
  obtain ⟨oc2, od2, dV, kV, doc, pm, an, cdv, ct, osl2, rfl, lk2, _, hD, _⟩ := D2.ex
  rw [lk2] at lk
  cases lk
  have hdV : dV = .none := by
    rcases hD with ⟨_, h⟩ | ⟨h, _⟩
    · exact h
    · exact absurd rfl h
  subst hdV
  exact ⟨_, F, ⟨fun s us ws _ l1 l2 => .of_eq (hb kV doc pm an cdv ct us ws l1 l2), fun r1 r2 => r1.append r2⟩⟩
/-- o.m(k = v), the only argument -/
theorem dc_methK1 {pl : Sem Bool} {o e : Expr} {kn mt : Str} {kpos apos pos : Pos} {f : Addr} {ps : List Str} {fn : List D → M D} {ci : Nat} {mo m : EM} (c : Cok Γ X k) (hj : j ≤ k) (F : OkK X.prog X.w X.K X.mg X.base j f ps 1 [kn] (spD Γ.G fn))
    (hcl : Cls X.K (Γ.G.cls ci)) (hm : Meth X.K (Γ.G.cls ci) mt f) (hf : mt ∉ Γ.G.fld ci) (ho : DE Γ X o mo) (he : DE Γ X e m)
    (hall : (backToKw pos (keywordEach [⟨some kn, e, kpos⟩] X.env)).all (·.1.isSome) = true := by rfl) (hks : (backToKw pos (keywordEach [⟨some kn, e, kpos⟩] X.env)).filterMap (·.1) = [kn] := by rfl)
    (hpl : ((backTo pos (starEach [] X.env)).any (·.1) || (backToKw pos (keywordEach [⟨some kn, e, kpos⟩] X.env)).any (·.1.isNone)) = false := by rfl)
    (ht : eval (.Call (.Attribute o mt apos) [] [⟨some kn, e, kpos⟩] pos) X.env = (do
      let ov ← eval o X.env
      standAt apos.atName
      let (f, first) ← holding [ov] (getMethod ov mt pl)
      callWith pos f first (backTo pos (starEach [] X.env)) (backToKw pos (keywordEach [⟨some kn, e, kpos⟩] X.env))) := by rfl) : DE Γ X (.Call (.Attribute o mt apos) [] [⟨some kn, e, kpos⟩] pos) (mMeth ci fn mo (mCons m mNil)) := by
  obtain ⟨fd, F, hb⟩ := F
  have h0 := pk_cons (nm := some kn) (kpos := kpos) he pk_nil
  refine ⟨fun pins s σ H Q I h => ?_⟩
  have h2 := td_obj (β := D) (R := fun v H1 => ∃ ρ S F fs a dx vs, v = .ref a ∧ Fit Γ ρ S F σ H1 ∧ F a = some (.ins (Γ.G.cls ci) dx ((Γ.G.fld ci).zip vs)) ∧ Rep Γ.G F (.obj ci fs) (.ref a) ∧ Post Γ.G Γ.E F H1 (bnd (mCons m mNil ρ) (fun xs => fn (.obj ci fs :: xs)) S) Q) (g := fun ρ x => bnd (mCons m mNil ρ) fun xs => fn (x :: xs)) h
    fun ρ S F fs a dx vs H1 ft ea rx p => ⟨ρ, S, F, fs, a, dx, vs, rfl, ft, ea, rx, p⟩
  refine PySem.W.methodCall_KW (pl := pl) (thn (ho.run pins s σ H _ I h2) fun u s1 ⟨x, H1, I1, rx, ρ, S, F1, fs, a, dx, vs, ex, ft, ea, ro, p⟩ => ?_) ht
  subst ex
  obtain rfl : u = Value.ref a := rx
  refine getmeth_ok I1 (ft.le _ _ ea) hcl hm (fld_none hf) ?_
  have e3 : bnd (mCons m mNil ρ) (fun xs => fn (.obj ci fs :: xs)) = bnd (m ρ) (fun y => fn [.obj ci fs, y]) := by
    show bnd (bnd (m ρ) fun y => bnd (mNil ρ) fun xs => ret (y :: xs)) (fun xs => fn (.obj ci fs :: xs)) = _
    rw [bnd_assoc]
    rfl
  rw [e3] at p
  refine PySem.W.callWith_KW0 (first := [.ref a]) (h₀ := X.base) I1.ok.mod.kin hm.kp hall (thn (h0.run pos pins s1 σ H1 (fun zs H2 => ∃ z y S1 F2, zs = [z] ∧ Rep Γ.G F2 y z ∧ Fit Γ ρ S1 F2 σ H2 ∧ Same F1 F2 ∧ Post Γ.G Γ.E F2 H2 (fn [.obj ci fs, y] S1) Q) I1
    ⟨ρ, S, F1, ft, (fit_bind (f := fun _ y => fn [.obj ci fs, y]) ft p).imp fun y S1 F2 H2 g q v rv => ⟨v, y, S1, F2, rfl, rv, q⟩⟩) fun us s2 ⟨ws, H2, I2, r, z, y, S1, F2, ez, ry, f2, e2, p2⟩ => ⟨I2.kIn, ?_⟩) hpl
  subst ez
  rw [hks]
  exact run_fnN (us := [.ref a]) (vs := [.ref a]) (F.mono hj) c.hr hb c.pass I2 (.cons rfl .nil) r rfl rfl ⟨[.obj ci fs, y], F2, S1, .cons (ro.mono e2) (.cons ry .nil), f2.le, f2.st, p2⟩
end
end Dv

/-! Dv10: repr; promises that ask that no repr is under way; the law's own def. -/
namespace Dv
open PySem PySem.Spec L2
mutual
theorem noDict : ∀ {x : D} {d : PyData}, toP x = some d → d.hasDict = false
  | .non, _, e => by cases e; rfl
  | .bl b, _, e => by cases e; rfl
  | .int i, _, e => by cases e; rfl
  | .str x, _, e => by cases e; rfl
  | .lst xs, dd, e => by
    cases q : toPs xs with
    | none => simp [toP, q] at e
    | some ds =>
      have e' : PyData.list ds = dd := by simpa [toP, q] using e
      subst e'
      simpa [PyData.hasDict] using noDicts q
  | .tup xs, dd, e => by
    cases q : toPs xs with
    | none => simp [toP, q] at e
    | some ds =>
      have e' : PyData.tuple ds = dd := by simpa [toP, q] using e
      subst e'
      simpa [PyData.hasDict] using noDicts q
  | .dic _ _, _, e => by cases e
  | .dit _ _, _, e => by cases e
  | .obj _ _, _, e => by cases e
  | .ex _ _, _, e => by cases e
  | .scr ns, _, e => by
    cases e
    have h : ∀ l : List Int, PyData.hasDictAll (l.map PyData.int) = false := by
      intro l
      induction l with
      | nil => simp [PyData.hasDictAll]
      | cons n l ih => simp [PyData.hasDictAll, PyData.hasDict, ih]
    simpa [PyData.hasDict] using h ns
  | .stt, _, e => by cases e
theorem noDicts : ∀ {xs : List D} {ds : List PyData}, toPs xs = some ds → PyData.hasDictAll ds = false
  | [], _, e => by cases e; simp [PyData.hasDictAll]
  | x :: xs, dd, e => by
    cases q : toP x with
    | none => simp [toPs, q] at e
    | some d =>
      cases q' : toPs xs with
      | none => simp [toPs, q, q'] at e
      | some ds' =>
        have e' : d :: ds' = dd := by simpa [toPs, q, q'] using e
        subst e'
        simp [PyData.hasDictAll, noDict q, noDicts q']
end
def seqD : D → Bool
  | .lst _ => true
  | .tup _ => true
  | _ => false
def dRepr : List D → Option D
  | [x] => match toP x with
    | some d => if seqD x = true ∧ SeqAt.shaped d = true ∧ d.showable = true ∧ d.shown.length ≤ sizeLine then some (.str d.shown) else none
    | none => none
  | _ => none
def rReprD (K : PySem.W.Frag) : List V → Hp → VK → Prop := fun xs H Q => ∃ a d, xs = [.ref a] ∧ Dp K H (.ref a) d ∧ SeqAt.shaped d = true ∧ d.hasDict = false ∧ d.showable = true ∧ d.shown.length ≤ sizeLine ∧ Q (.str d.shown) H
section
variable {Γ : Gam} {X : Cx} {j k : Nat}
theorem callr_repr (c : Cok Γ X k) (hgd : X.A.guards = some []) : CallR X (.builtin "repr") (rReprD Γ.G.K) := by
  rw [c.hK]
  intro pins s σ H xs us Q I r h
  obtain ⟨a, d, rfl, hd, hs, hn, hw, hz, q⟩ := h
  obtain ⟨u, rfl, ru⟩ := r.one
  cases ru
  obtain ⟨as, R⟩ := Dp.reads I d _ _ hd rfl
  have hdep : d.depth ≤ 64 := by
    unfold SeqAt.shaped at hs
    rw [Bool.and_eq_true] at hs
    exact of_decide_eq_true hs.2
  have hu : X.A.units + (d.depth + 1) < cLine := by have := c.hr.un; omega
  exact repr_of_reads' R hw (fun z => by rw [hn] at z; cases z) hgd hu (fun b o e => e) (fun h' u tk hk => ⟨.str d.shown, H, I.kept (t' := tk) hk, ⟨u, rfl⟩, q⟩) hz
theorem cal_repr {G : Gh} : CalD G (rReprD G.K) dRepr := by
  intro ds z vs F H S Q e le st r k
  unfold dRepr at e
  split at e
  · rename_i x
    cases q : toP x with
    | none => rw [q] at e; cases e
    | some d =>
      rw [q] at e
      dsimp only at e
      split at e
      · rename_i h
        cases e
        obtain ⟨v, rfl, rr⟩ := r.one
        have hdp := dp_of le rr q
        cases x <;> try (cases h.1; done)
        · obtain ⟨a, ws, rfl, _⟩ := rr
          exact ⟨a, d, rfl, hdp, h.2.1, noDict q, h.2.2.1, h.2.2.2, k _ F H (Go.refl le st) rfl⟩
        · obtain ⟨a, ws, rfl, _⟩ := rr
          exact ⟨a, d, rfl, hdp, h.2.1, noDict q, h.2.2.1, h.2.2.2, k _ F H (Go.refl le st) rfl⟩
      · cases e
  · cases e
end

/-! ### promises that ask that no repr is under way -/
structure FnG (P : Program) (w : World) (K : PySem.W.Frag) (mg : Str → Option Value) (base : Heap) (CX : CXT) (k : Nat) (f : Addr) (fd : FuncData) (ps : List Str) (sp : Sp) : Prop where
  len : ∀ vs H Q E, sp vs H Q E → vs.length = ps.length
  run : ∀ (A : Around) (outer : List Env) (s : Shared) (H : Hp) (args : Args) (us : List Value) (vs : List V) (Q : VK) (E : XK), Room k A → A.guards = some [] → Env0 P w K mg base A outer s H → BindsTo s fd args (ps.zip us) → Vals vs us → sp vs H Q E →
    codeAny (model P w) A (.call (.ref f) args) (CR CX outer P w H s Q E) s
theorem FnG.mono {P : Program} {w : World} {K : PySem.W.Frag} {mg : Str → Option Value} {base : Heap} {CX : CXT} {j k : Nat} {f : Addr} {fd : FuncData} {ps : List Str} {sp : Sp} (F : FnG P w K mg base CX j f fd ps sp) (h : j ≤ k) : FnG P w K mg base CX k f fd ps sp :=
  ⟨F.len, fun A outer s H args us vs Q E hr => F.run A outer s H args us vs Q E (hr.mono h)⟩
def OkG (P : Program) (w : World) (K : PySem.W.Frag) (mg : Str → Option Value) (base : Heap) (k : Nat) (f : Addr) (ps : List Str) (sp : Sp) : Prop := ∃ fd, FnG P w K mg base (L2.CX P w) k f fd ps sp ∧ Binds K fd ps []
section
variable {P : Program} {w : World} {K : PySem.W.Frag} {mg : Str → Option Value} {base : Heap}
theorem fng_of {N ps : List Str} {k : Nat} {sp : Sp} {f : Addr} {x qual : Str} {params : Arguments} {body : List Stmt} {scope : Scope} {dvs : List V} {kws : List (Str × V)} {fd : FuncData} (D : FunD K x qual params body scope dvs kws f fd) (Sc : FnScope N ps scope)
    (len : ∀ vs H Q E, sp vs H Q E → vs.length = ps.length)
    (hb : ∀ (cdv : Value) (A : Around) (outer : List Env) (s : Shared) (H : Hp) (vs : List V) (Q : VK) (E : XK), Room k (A.deeper (PyProof.Rows.envOfC qual scope s.heap.objs.size f cdv)) → (cxD P w K mg base N qual scope f cdv A outer s H E).A.guards = some [] → sp vs H Q E →
      ∃ t, PSs (cxD P w K mg base N qual scope f cdv A outer s H E) body t ∧ t { nx := fun _ H' => Q .non H', rt := Q } (L2.start N vs) H) : FnG P w K mg base (L2.CX P w) (k + 1) f fd ps sp := by
  obtain ⟨oc, od, dV, kV, doc, pm, an, cdv, ct, osl, rfl, lk, hcd, _, _⟩ := D.ex
  exact ⟨len, fun A outer s H args us vs Q E hr hg e0 hbd rv hsp => LamX.run_ofS lk hcd Sc hr e0 hbd rv (len _ _ _ _ hsp) fun hr' => hb cdv A outer s H vs Q E hr' hg hsp⟩
theorem okG_def {G : Gh} {N ps : List Str} {k : Nat} {b : SM} {f : Addr} {x qual : Str} {st : Stmt} (D : Df K f x qual st) (Sc : FnScope N ps (defScope st)) (hB : BindN x qual st ps) (hK : G.K = K) (hl : ps.length ≤ N.length)
    (hb : ∀ (cdv : Value) (A : Around) (outer : List Env) (s : Shared) (F H : Hp) (E : XK), Cok ⟨G, F, H, E, 0⟩ (cxD P w K mg base N qual (defScope st) f cdv A outer s H E) k → (cxD P w K mg base N qual (defScope st) f cdv A outer s H E).A.guards = some [] →
      DSs ⟨G, F, H, E, 0⟩ (cxD P w K mg base N qual (defScope st) f cdv A outer s H E) (defBody st) b) :
    OkG P w K mg base (k + 1) f ps (spD G (dn ps.length N.length b)) := by
  obtain ⟨fd, D⟩ := D
  refine ⟨fd, fng_of D Sc (fun vs H Q E h => len_spD vs H Q E h) (fun cdv A outer s H vs Q E hr hg h => ?_), D.bindsN hB⟩
  obtain ⟨ds, F, S, r, le, st1, p⟩ := h
  unfold dn at p
  by_cases e : ds.length = ps.length
  · rw [if_pos e] at p
    refine ⟨_, hb cdv A outer s F H E (cok_def Sc.nd hK hr) hg, ds.map Sl.dat ++ List.replicate (N.length - ps.length) Sl.un, S, F, ?_, post_end (Γ := ⟨G, F, H, E, 0⟩) (r := b (ds.map Sl.dat ++ List.replicate (N.length - ps.length) Sl.un) S) rfl rfl p⟩
    rw [← e]
    exact fit_start (Γ := ⟨G, F, H, E, 0⟩) (Go.refl le st1) r (by rw [e]; exact hl)
  · rw [if_neg e] at p; exact p.elim
end
section
variable {Γ : Gam} {X : Cx} {j k : Nat}
theorem run_fnG {pins : List (Addr × Obj)} {σ : L2.St} {H : Hp} {s : Shared} {Q : VK} {us : List Value} {vs : List V} {f : Addr} {fd : FuncData} {ps : List Str} {sp : Sp} {E : XK} (F : FnG X.prog X.w X.K X.mg X.base (L2.CX X.prog X.w) k f fd ps sp) (hr : Room k X.A) (hgd : X.A.guards = some []) (hb : Binds X.K fd ps []) (hx : Passes (L2.CX X.prog X.w) X E)
    (I : Inv X pins σ H s) (r : Vals vs us) (h : sp vs H Q E) : wpAny (model X.prog X.w) X.A (call (.ref f) us) (EP X pins σ Q) X.xe s := by
  have hl : us.length = ps.length := by rw [← r.length]; exact F.len _ _ _ _ h
  have hb2 := hb s us I.kIn (by rw [List.append_nil]; exact hl)
  rw [List.append_nil] at hb2
  refine wpAny_call (codeAny_mono (F.run X.A X.stack s H ⟨us, []⟩ us vs Q E hr hgd I.env0 hb2 r h) fun rr s' hq => ?_)
  cases rr with
  | error e => exact hx pins σ H s e s' I hq
  | ok fl =>
    cases fl with
    | ret u => exact I.after hq
    | next => exact False.elim hq
    | brk => exact False.elim hq
    | cont => exact False.elim hq
theorem dc_callG {x : Str} {p pos : Pos} {e : Expr} {es : List Expr} {f : Addr} {ps : List Str} {fn : List D → M D} {m : Rho → M (List D)} (c : Cok Γ X k) (hgd : X.A.guards = some []) (hj : j ≤ k) (F : OkG X.prog X.w X.K X.mg X.base j f ps (spD Γ.G fn))
    (hg : Gl X x) (hm : X.mg x = some (.ref f)) (hk : PySem.W.keepIn X.K (.ref f) = true) (ha : DA Γ X (e :: es) m) (hdb : (x == ("__debug__" : Str)) = false := by decide)
    (he : starEach (e :: es) X.env = (false, eval e X.env) :: starEach es X.env := by rfl) (hpl : (backTo pos (starEach es X.env)).any (·.1) = false := by rfl) : DE Γ X (.Call (.Name x p) (e :: es) [] pos) (mCall fn m) := by
  obtain ⟨fd, F, hb⟩ := F
  refine ⟨fun pins s σ H Q I h => ?_⟩
  have h2 : tDA Γ m σ H fun vs H1 => spD Γ.G fn vs H1 Q Γ.E := ta_bind (β := D) (f := fun _ => fn) h fun ρ S F ds vs H1 ft r p => ⟨ds, F, S, r, ft.le, ft.st, p⟩
  refine wpAny_Call_Name_kw (ld_glob I hg hm ?_ hdb)
  refine PySem.W.callWith_K (h₀ := X.base) I.ok.mod.kin hk (thn (ha.run pos pins s σ H _ I h2) fun us s1 ⟨vs, H1, I1, r, q⟩ => ⟨I1.kIn, ?_⟩) he hpl
  exact run_fnG (F.mono hj) c.hr hgd hb c.pass I1 r q
end
end Dv

/-! Dv11: the state is begun; the law's def. -/
namespace Dv
open PySem PySem.Spec L2
def absI (i : Int) : Int := if i < 0 then -i else i
abbrev big : Int := 10 ^ 18
def greats (ns : List Int) : List Int := (ns.filter fun n => decide (big ≤ absI n)).map fun n => absI n - big
abbrev e18 : EM := m2 dPow (mC (.int 10)) (mC (.int 18))
abbrev eAbs : EM := mA dAbs (mCons (mV 2) mNil)
def bg0 : SM := sSetZ 1 (zLc [2] (iD (mV 0)) (gN 2) (mB (m2 dGe eAbs e18)) (m2 dSub eAbs e18))
def bg1 : ZM := zLc [2] (iD (mV 0)) (gN 2) mYes eAbs
def dS0 : DS := ⟨[], [], 0, 0⟩
/-- the state at the start -/
def S0 (ns : List Int) : DS := ⟨greats ns, ns.map absI, 0, 0⟩
theorem e18_eq (ρ : Rho) (S : DS) : e18 ρ S = (.ok (.int big), S) := by
  show (bnd (ret (.int 10)) fun x => bnd (ret (.int 18)) fun y => ofO (dPow x y)) S = _
  rw [bnd_ret, bnd_ret]
  have h : dPow (.int 10) (.int 18) = some (.int big) := by
    show (if (0 : Int) ≤ 18 ∧ (18 : Int) ≤ 1000000 ∧ (10 : Int).natAbs < 2 ^ 64 then some (D.int (10 ^ (18 : Int).toNat)) else none) = _
    rw [if_pos (by decide)]
    rfl
  rw [h]
  rfl
theorem great_map : ∀ ns : List Int, ns.filterMap (fun n => if big ≤ absI n then some (D.int (absI n - big)) else none) = (greats ns).map D.int
  | [] => rfl
  | n :: ns => by
    unfold greats
    by_cases h : big ≤ absI n
    · rw [List.filterMap_cons, if_pos h, List.filter_cons, if_pos (by simpa using h)]
      simp only [List.map_cons]
      rw [great_map ns]
      rfl
    · rw [List.filterMap_cons, if_neg h, List.filter_cons, if_neg (by simpa using h)]
      exact great_map ns
theorem eAbs_eq (ρ : Rho) (n : Int) (S : DS) (h : ρ[2]? = some (.dat (.int n))) : eAbs ρ S = (.ok (.int (absI n)), S) := by
  have hv : mV 2 ρ = ret (.int n) := by unfold mV; rw [h]
  show (bnd (bnd (mV 2 ρ) fun x => bnd (mNil ρ) fun xs => ret (x :: xs)) fun xs => ofO (dAbs xs)) S = _
  rw [hv]
  rfl
theorem lcGo_acc (f : D → M (Option D)) (o : Int → Option D) (hf : ∀ n S, f (.int n) S = (.ok (o n), S)) : ∀ (ns : List Int) (acc : List D) (S : DS), lcGo f (ns.map D.int) acc S = (.ok (acc ++ ns.filterMap o), S)
  | [], acc, S => by simp [lcGo, ret]
  | n :: ns, acc, S => by
    show bnd (f (.int n)) (fun o => lcGo f (ns.map D.int) (acc ++ o.toList)) S = _
    unfold bnd
    rw [hf]
    show lcGo f (ns.map D.int) (acc ++ (o n).toList) S = _
    rw [lcGo_acc f o hf ns]
    cases e : o n <;> simp [List.filterMap_cons, e]
theorem bg0_eq (ns : List Int) (hz : ns.length < sizeLine) (S : DS) : bg0 [.dat (.scr ns), .un, .un] S = (.ok (.nx [.dat (.scr ns), .own ((greats ns).map D.int), .un]), S) := by
  have h1 : (iD (mV 0)) [.dat (.scr ns), .un, .un] = ret (ns.map D.int) := rfl
  have h2 : ∀ n S, lcTurn (gN 2) (mB (m2 dGe eAbs e18)) (m2 dSub eAbs e18) [.dat (.scr ns), .un, .un] (.int n) S = (.ok (if big ≤ absI n then some (.int (absI n - big)) else none), S) := by
    intro n S
    have hA : ∀ S, eAbs [.dat (.scr ns), .un, .dat (.int n)] S = (.ok (.int (absI n)), S) := fun S => eAbs_eq _ n S rfl
    show (bnd (noX ((mB (m2 dGe eAbs e18)) [.dat (.scr ns), .un, .dat (.int n)])) fun b => if b = true then bnd (noX ((m2 dSub eAbs e18) [.dat (.scr ns), .un, .dat (.int n)])) fun y => ret (some y) else ret none) S = _
    have ht : ∀ S, (mB (m2 dGe eAbs e18)) [.dat (.scr ns), .un, .dat (.int n)] S = (.ok (decide (big ≤ absI n)), S) := by
      intro S
      unfold mB m2 bnd
      rw [hA]
      dsimp only
      rw [e18_eq]
      rfl
    have he : ∀ S, (m2 dSub eAbs e18) [.dat (.scr ns), .un, .dat (.int n)] S = (.ok (.int (absI n - big)), S) := by
      intro S
      unfold m2 bnd
      rw [hA]
      dsimp only
      rw [e18_eq]
      rfl
    unfold bnd noX
    rw [ht]
    dsimp only
    by_cases hb : big ≤ absI n
    · rw [if_pos (by simpa using hb), if_pos hb]
      show (match (match (m2 dSub eAbs e18) [.dat (.scr ns), .un, .dat (.int n)] S with
        | (.ok a, S') => ((.ok a : Rs D), S')
        | (.exc _, S') => (.bad, S')
        | (.bad, S') => (.bad, S')) with
        | (.ok a, S') => ret (some a) S'
        | (.exc x, S') => (.exc x, S')
        | (.bad, S') => (.bad, S')) = _
      rw [he]
      rfl
    · rw [if_neg (by simpa using hb), if_neg hb]
      rfl
  have h3 : mLc [2] (iD (mV 0)) (gN 2) (mB (m2 dGe eAbs e18)) (m2 dSub eAbs e18) [.dat (.scr ns), .un, .un] S = (.ok ((greats ns).map D.int), S) := by
    unfold mLc
    rw [h1, bnd_ret, if_pos (by simpa using hz)]
    show lcGo (lcTurn (gN 2) (mB (m2 dGe eAbs e18)) (m2 dSub eAbs e18) [.dat (.scr ns), .un, .un]) (ns.map D.int) [] S = _
    rw [lcGo_acc _ _ h2, List.nil_append, great_map]
  unfold bg0 sSetZ zLc bnd
  rw [h3]
  rfl
theorem bg1_eq (ns : List Int) (hz : ns.length < sizeLine) (x : Sl) (S : DS) : bg1 [.dat (.scr ns), x, .un] S = (.ok (.own ((ns.map absI).map D.int)), S) := by
  have h1 : (iD (mV 0)) [.dat (.scr ns), x, .un] = ret (ns.map D.int) := rfl
  have h2 : ∀ n S, lcTurn (gN 2) mYes eAbs [.dat (.scr ns), x, .un] (.int n) S = (.ok (some (.int (absI n))), S) := by
    intro n S
    have hA : ∀ S, eAbs [.dat (.scr ns), x, .dat (.int n)] S = (.ok (.int (absI n)), S) := fun S => eAbs_eq _ n S rfl
    show (bnd (noX (mYes [.dat (.scr ns), x, .dat (.int n)])) fun b => if b = true then bnd (noX (eAbs [.dat (.scr ns), x, .dat (.int n)])) fun y => ret (some y) else ret none) S = _
    show (match (match eAbs [.dat (.scr ns), x, .dat (.int n)] S with
        | (.ok a, S') => ((.ok a : Rs D), S')
        | (.exc _, S') => (.bad, S')
        | (.bad, S') => (.bad, S')) with
        | (.ok a, S') => ret (some a) S'
        | (.exc x, S') => (.exc x, S')
        | (.bad, S') => (.bad, S')) = _
    rw [hA]
    rfl
  have h3 : mLc [2] (iD (mV 0)) (gN 2) mYes eAbs [.dat (.scr ns), x, .un] S = (.ok ((ns.map absI).map D.int), S) := by
    unfold mLc
    rw [h1, bnd_ret, if_pos (by simpa using hz)]
    show lcGo (lcTurn (gN 2) mYes eAbs [.dat (.scr ns), x, .un]) (ns.map D.int) [] S = _
    rw [lcGo_acc _ _ h2, List.nil_append]
    simp [List.filterMap_eq_map', Function.comp_def]
  unfold bg1 zLc bnd
  rw [h3]
  rfl
/-- what _law_begun promises -/
def spBegun (K : PySem.W.Frag) : Sp := fun vs H Q _ => ∃ a ns, vs = [.ref a] ∧ SqL K H a (ns.map V.int) ∧ ns.length < sizeLine ∧ ∀ pd pg pc H', H pd = none → H pg = none → H pc = none → pg ≠ pc → pd ≠ pg → pd ≠ pc →
  (∀ b o, H b = some o → H' b = some o) → H' pd = some (.dK [(.inr "great", .ref pg), (.inr "cells", .ref pc), (.inr "rest", .int 0), (.inr "turn", .int 0)]) → H' pg = some (.lst ((greats ns).map V.int)) → H' pc = some (.lst ((ns.map absI).map V.int)) → Q (.ref pd) H'
theorem repL_D {G : Gh} {F : Hp} : ∀ {l : List Int} {vs : List V}, RepL G F (l.map D.int) vs → vs = l.map V.int
  | [], _, r => by cases (show _ = [] from r); rfl
  | n :: l, _, ⟨v, ws, h1, h2, h3⟩ => by subst h1; cases h2; rw [repL_D h3]; rfl
abbrev bgG (K : PySem.W.Frag) : Gh := ⟨K, 0, fun _ => 0, fun _ => [], false, 0, 0, 0⟩
def scrF (H : Hp) (a : Addr) : Hp := fun b => if b = a then H b else none
theorem scrF_le (H : Hp) (a : Addr) : Same (scrF H a) H := fun b o e => by
  unfold scrF at e
  split at e
  · exact e
  · cases e
theorem scrF_seq {K : PySem.W.Frag} {H : Hp} {a : Addr} {xs : List V} (h : SqL K H a xs) : SqL K (scrF H a) a xs := by
  have e : scrF H a a = H a := if_pos rfl
  rcases h with (h | ⟨o, h⟩) | h
  · exact .inl (.inl (by rw [e]; exact h))
  · exact .inl (.inr ⟨o, by rw [e]; exact h⟩)
  · exact .inr h
theorem begun_read {K : PySem.W.Frag} {vs : List V} {H : Hp} {Q : VK} {E : XK} {N : List Str} (hN : N.length = 3) (h : spBegun K vs H Q E) :
    ∃ F, tSeq (tDS ⟨bgG K, F, H, E, 0⟩ bg0) (tRet (tDisp [(tC (.str "great"), tVar 1), (tC (.str "cells"), tDZ ⟨bgG K, F, H, E, 0⟩ bg1), (tC (.str "rest"), tC (.int 0)), (tC (.str "turn"), tC (.int 0))])) { nx := fun _ H' => Q .non H', rt := Q } (L2.start N vs) H := by
  obtain ⟨a, ns, rfl, hs, hz, hQ⟩ := h
  refine ⟨scrF H a, [.dat (.scr ns), .un, .un], dS0, scrF H a, ?_, ?_⟩
  · have r : RepL (bgG K) (scrF H a) [.scr ns] [.ref a] := .cons ⟨a, rfl, scrF_seq hs⟩ .nil
    have f := fit_start (Γ := ⟨bgG K, scrF H a, H, E, 0⟩) (S := dS0) (N := N) (Go.refl (scrF_le H a) (fun z => by cases z)) r (by rw [hN]; show 1 ≤ 3; decide)
    rw [hN] at f
    exact f
  · rw [bg0_eq ns hz]
    intro F' σ H' e ft p np
    obtain ⟨pg, o, e1, e2, e3, m, ws, hg, rg⟩ := ft.slot (j := 1) rfl rfl
    have hw := repL_D rg
    subst hw
    have gA := Go.allocH (S := dS0) (o := .dK []) ft.le ft.st np
    have npg : pg ≠ p := fun z => by rw [z, np] at hg; cases hg
    refine ⟨.ref pg, e1, ?_⟩
    refine ⟨[.dat (.scr ns), .own ((greats ns).map D.int), .un], dS0, F', ft.step gA, ?_⟩
    rw [bg1_eq ns hz]
    intro F2 H2 g2 v hv
    obtain ⟨pc, ⟨ev, mc, us, hpc, rc⟩, hm⟩ := hv
    cases ev
    have npc := (hm rfl).2
    have hu := repL_D rc
    subst hu
    have hp2 : H2 p = some (.dK []) := g2.keep p _ upd_same (fun z => by cases z)
    have hg2 : H2 pg = some (.lst ((greats ns).map V.int)) := g2.keep pg _ (by rw [upd_ne npg]; exact hg) (fun z => by cases z)
    have n1 : pc ≠ p := fun z => by rw [z, upd_same] at npc; cases npc
    have n2 : pg ≠ pc := fun z => by rw [← z, upd_ne npg, hg] at npc; cases npc
    refine ⟨hp2, [(.inr "great", .ref pg), (.inr "cells", .ref pc), (.inr "rest", .int 0), (.inr "turn", .int 0)], rfl, by show 4 ≤ 15; decide, ?_⟩
    refine hQ p pg pc _ (ft.go.grow p np) m.h0 mc.h0 n2 (Ne.symm npg) (Ne.symm n1) (fun b o hb => ?_) ?_ ?_ ?_
    · have hb2 : H' b = some o := ft.go.keep b o hb fun z => by cases z
      have nb : b ≠ p := fun z => by rw [z, np] at hb2; cases hb2
      rw [upd_ne nb]
      exact g2.keep b o (by rw [upd_ne nb]; exact hb2) fun z => by cases z
    · rw [upd_same]
      rfl
    · rw [upd_ne npg]; exact hg2
    · rw [upd_ne n1]; exact hpc
end Dv

/-! Dv12: the law's def and its call from the top. -/
namespace Dv
open PySem PySem.Spec L2
def spLaw (K : PySem.W.Frag) : Sp := fun vs H Q _ => ∃ (a : Addr) (ns : List Int), vs = [.ref a] ∧ SqL K H a (ns.map V.int) ∧ ns.length ≤ 63 ∧ ∀ H', Q (.bl true) H'
/-- the rest of the law's body, over the state that was begun -/
def tRest (mk : Addr → Addr → Addr → Gh) (E : XK) (b : SM) : TS := fun Dn σ H => ∃ pd pg pc F H0, tDS ⟨mk pd pg pc, F, H0, E, 0⟩ b Dn σ H
theorem pss_rest {X : Cx} {mk : Addr → Addr → Addr → Gh} {E : XK} {b : SM} {sts : List Stmt} (h : ∀ pd pg pc F H0, DSs ⟨mk pd pg pc, F, H0, E, 0⟩ X sts b) : PSs X sts (tRest mk E b) :=
  ⟨fun pins s σ H Dn I ⟨pd, pg, pc, F, H0, hw⟩ => (h pd pg pc F H0).run pins s σ H Dn I hw⟩
/-- the frame at the start -/
def rho0 (ns : List Int) (n : Nat) : Rho := (.dat (.scr ns) :: List.replicate n Sl.un).set 1 (.dat .stt)
theorem law_read {K : PySem.W.Frag} {mk : Addr → Addr → Addr → Gh} {E : XK} {b : SM} {N : List Str} {n : Nat} {vs : List V} {H : Hp} {Q : VK} (hN : N.length = n + 1) (hK : ∀ pd pg pc, (mk pd pg pc).K = K) (hd : ∀ pd pg pc, (mk pd pg pc).pd = pd) (hg : ∀ pd pg pc, (mk pd pg pc).pg = pg) (hc : ∀ pd pg pc, (mk pd pg pc).pc = pc) (hhs : ∀ pd pg pc, (mk pd pg pc).hs = true)
    (hlaw : ∀ ns : List Int, ns.length ≤ 63 → ∃ S', b (rho0 ns n) (S0 ns) = (.ok (.rt (.bl true)), S')) (h : spLaw K vs H Q E) :
    tSeq (tAsg (tCall (spBegun K) [] E (tCons (tVar 0) tNil)) (gName 1)) (tRest mk E b) { nx := fun _ H' => Q .non H', rt := Q } (L2.start N vs) H := by
  obtain ⟨a, ns, rfl, hs, hz, hQ⟩ := h
  have e0 : L2.start N [V.ref a] = some (.ref a) :: List.replicate n none := by
    unfold L2.start
    rw [hN]
    rfl
  refine ⟨.ref a, by rw [e0]; rfl, ?_⟩
  refine ⟨a, ns, rfl, hs, by rw [sizeLine_eq]; omega, fun pd pg pc H' h1 h2 h3 n1 n2 n3 ext e1 e2 e3 => ?_⟩
  obtain ⟨S', hb⟩ := hlaw ns hz
  have hxd := hd pd pg pc
  have hxg := hg pd pg pc
  have hxc := hc pd pg pc
  have hxK := hK pd pg pc
  have hxh := hhs pd pg pc
  generalize hG : mk pd pg pc = G at hxd hxg hxc hxK hxh
  let F : Hp := fun b => if b = pc then some (.lst ((ns.map absI).map V.int)) else scrF H a b
  have Fpc : F pc = some (.lst ((ns.map absI).map V.int)) := if_pos rfl
  have Fne : ∀ b, b ≠ pc → F b = scrF H a b := fun b hb => if_neg hb
  have sne : ∀ b, H b = none → scrF H a b = none := fun b hb => by
    unfold scrF
    split
    · exact hb
    · rfl
  have le : Same F H' := fun b o e => by
    by_cases hbc : b = pc
    · rw [hbc, Fpc] at e
      cases e
      rw [hbc]; exact e3
    · rw [Fne b hbc] at e
      exact ext b o (scrF_le H a b o e)
  have st : G.hs = true → StOK G F H' (S0 ns) := fun _ => ⟨by rw [hxd, e1]; unfold stK; rw [hxg, hxc]; rfl, by rw [hxg]; exact e2, by rw [hxc]; exact e3, by rw [hxd, Fne _ n3]; exact sne _ h1, by rw [hxg, Fne _ n1]; exact sne _ h2, by rw [hxc]; exact Fpc, by rw [hxg, hxc]; exact n1⟩
  have rs : Rep G F (.scr ns) (.ref a) := by
    refine ⟨a, rfl, ?_⟩
    rw [hxK]
    rcases hs with (hs | ⟨o, hs⟩) | hs
    · have na : a ≠ pc := fun z => by rw [z, h3] at hs; cases hs
      exact .inl (.inl (by rw [Fne _ na]; show (if a = a then H a else none) = _; rw [if_pos rfl]; exact hs))
    · have na : a ≠ pc := fun z => by rw [z, h3] at hs; cases hs
      exact .inl (.inr ⟨o, by rw [Fne _ na]; show (if a = a then H a else none) = _; rw [if_pos rfl]; exact hs⟩)
    · exact .inr hs
  have f0 := fit_start (Γ := ⟨G, F, H', E, 0⟩) (N := N) (S := S0 ns) (Go.refl le st) (.cons rs .nil) (by rw [hN]; show 1 ≤ n + 1; omega)
  have f1 := f0.put (i := 1) (d := .stt) (v := .ref pd) ⟨hxh, by rw [hxd]⟩
  refine ⟨pd, pg, pc, F, H', ?_⟩
  rw [hG]
  refine ⟨_, S0 ns, F, f1, ?_⟩
  have er : (([D.scr ns].map Sl.dat ++ List.replicate (N.length - [D.scr ns].length) Sl.un).set 1 (Sl.dat .stt)) = rho0 ns n := by
    rw [hN]
    rfl
  rw [er, hb]
  exact fun F2 H2 v _ rv => by
    cases rv
    exact hQ H2

section
open PyProof.Rows
/-- the call of the law's def from the top -/
theorem law_callG {P : Program} {w : World} {K : PySem.W.Frag} {mg mb : Str → Option Value} {k : Nat} {fa a : Addr} {fd : FuncData} {x : Str} {sp : Sp} {z₁ : Shared} {vs : List Value} {ns : List Int}
    (KX : K.In z₁.heap) (hns : z₁.heap.Ns mainGlobals mg) (hb : z₁.heap.Ns builtinsNs mb) (hbb : ∀ x : Str, x ≠ "__name__" → mb x = bootBuiltins x) (hlim : z₁.heap.NoLimit) (hg : z₁.gens = #[])
    (ha : z₁.heap.get? a = some { cls := .type "list", data := .seq vs.toArray }) (hi : IntsAre vs ns) (hl : ns.length ≤ sizeLine) (hr : Room k callerA)
    (F : ∀ base : Heap, K.In base → base.Ns mainGlobals mg → FnG P w K mg base (L2.CX P w) k fa fd [x] sp) (hbind : ∀ (s : Shared) (u : Value), BindsTo s fd ⟨[u], []⟩ [(x, u)])
    (hsp : ∀ H : Hp, SqL K H a (ns.map V.int) → sp [.ref a] H (fun v _ => v = .bl true) fun _ _ _ => False) :
    codeAny (model P w) callerA (.call (.ref fa) ⟨[.ref a], []⟩) (fun r z' => r = .ok (.ret (.bool true)) ∧ OldK z₁.heap z'.heap ∧ z'.os = z₁.os ∧ AllBare z'.gens) z₁ := by
  have rv := vals_ints hi
  have lenV := hi.length
  have run : ∀ Ht : Hp, L2.Only Ht → SqL K Ht a (ns.map V.int) → HOk P w Ht z₁.heap → (∀ b, Ht b ≠ none → b = a) → (Ht a ≠ none → K.lookup a = none) →
      codeAny (model P w) callerA (.call (.ref fa) ⟨[.ref a], []⟩) (fun r z' => r = .ok (.ret (.bool true)) ∧ OldK z₁.heap z'.heap ∧ z'.os = z₁.os ∧ AllBare z'.gens) z₁ := by
    intro Ht hO hS hok hA hK
    have back : ∀ {b : Addr} {o : Obj}, z₁.heap.get? b = some o → Ht b = none → (hidT z₁.heap Ht).get? b = some o := fun e n => hidT_get e n
    have noneOf : ∀ {b : Addr}, b ≠ a → Ht b = none := fun {b} hne => by
      cases q : Ht b with
      | none => rfl
      | some u => exact absurd (hA b (by rw [q]; simp)) hne
    have dictNone : ∀ {b : Addr} {o : Obj} {es : Array DictEntry} {ep : Nat}, z₁.heap.get? b = some o → o.data = .dict es ep → Ht b = none := fun {b o es ep} e d => by
      by_cases hba : b = a
      · subst hba
        rw [ha] at e
        cases e
        exact absurd (show Data.seq vs.toArray _ = Data.dict es ep from d) (fun z => by cases z)
      · exact noneOf hba
    have nsB : ∀ {b : Addr} {m : Str → Option Value}, z₁.heap.Ns b m → (hidT z₁.heap Ht).Ns b m := fun {b m} ⟨o, es, ep, e, d, r⟩ => ⟨o, es, ep, back e (dictNone e d), d, r⟩
    have KB : K.In (hidT z₁.heap Ht) := fun b o e => back (KX b o e) (by
      by_cases hba : b = a
      · subst hba
        cases q : Ht b with
        | none => rfl
        | some u => rw [hK (by rw [q]; simp)] at e; cases e
      · exact noneOf hba)
    have hM : Mod K mg (hidT z₁.heap Ht) := ⟨KB, nsB hns, ⟨mb, nsB hb, hbb⟩, let ⟨mc, h1, h2⟩ := hlim; ⟨mc, nsB h1, h2⟩⟩
    have noA : ∀ b : Addr, b ∈ ([] : List Addr) → False := fun b hb => by cases hb
    have e0 : Env0 P w K mg (hidT z₁.heap Ht) callerA [] z₁ Ht := ⟨rfl, hM, fun b o e => of_hidT e, Nat.le_of_eq (hidT_size _ _), trivial, fun b hb => (noA b hb).elim, hok, .of_eq hg⟩
    refine codeAny_mono ((F _ KB (nsB hns)).run callerA [] z₁ Ht ⟨[.ref a], []⟩ [.ref a] [.ref a] _ _ hr rfl e0 (hbind z₁ (.ref a)) (.cons rfl .nil) (hsp Ht hS)) fun r z' h => ?_
    cases r with
    | error e =>
      obtain ⟨_, _, _, _, _, _, _, _, _, _, _, _, f⟩ := h
      exact f.elim
    | ok fl =>
      cases fl with
      | next => exact False.elim h
      | brk => exact False.elim h
      | cont => exact False.elim h
      | ret u =>
        obtain ⟨v, H', os, bare, un, hok', r', q⟩ := h
        cases (show v = .bl true from q)
        obtain rfl : u = Value.bool true := r'
        refine ⟨rfl, OldK.of_keep fun b o e => ?_, os, bare⟩
        cases q : Ht b with
        | none => exact un.keep b o e q (fun z => noA b z) (fun z => noA b z)
        | some u =>
          rcases hO b with z | ⟨ob, xs, z⟩
          · rw [q] at z; cases z
          · obtain ⟨e1, _⟩ := hok b _ z
            obtain ⟨e2, _⟩ := hok' b _ (un.frzs b ob _ z)
            rw [e] at e1; cases e1
            exact e2
  cases hk : K.lookup a with
  | some o =>
    have e := KX a o hk
    rw [ha] at e
    cases e
    refine run (fun _ => none) (fun _ => .inl rfl) (.inr ⟨_, vs.toArray, _, hk, rfl, rfl, rfl, by rw [List.size_toArray, lenV]; exact hl, by simpa using rv⟩) (fun b u z => ?_) (fun b z => absurd rfl z) (fun z => absurd rfl z)
    cases (show (none : Option HO) = some u from z)
  | none =>
    have at_ : ∀ {b : Addr} {u : HO}, (if b = a then some (HO.frz { cls := .type "list", data := .seq vs.toArray } (.lst (ns.map V.int))) else none) = some u → b = a ∧ u = HO.frz { cls := .type "list", data := .seq vs.toArray } (.lst (ns.map V.int)) := fun {b u} z => by
      by_cases hba : b = a
      · rw [if_pos hba] at z; exact ⟨hba, (Option.some.inj z).symm⟩
      · rw [if_neg hba] at z; cases z
    refine run (fun b => if b = a then some (.frz { cls := .type "list", data := .seq vs.toArray } (.lst (ns.map V.int))) else none) (fun b => ?_) (.inl (.inr ⟨{ cls := .type "list", data := .seq vs.toArray }, if_pos rfl⟩)) (fun b u z => ?_) (fun b z => ?_) fun _ => hk
    · by_cases hba : b = a
      · exact .inr ⟨_, _, if_pos hba⟩
      · exact .inl (if_neg hba)
    · obtain ⟨rfl, rfl⟩ := at_ z
      exact ⟨ha, by rw [List.length_map]; exact hl, vs, _, rv, ha⟩
    · cases q : (if b = a then some (HO.frz { cls := .type "list", data := .seq vs.toArray } (.lst (ns.map V.int))) else none) with
      | none => exact absurd q z
      | some u => exact (at_ q).1
theorem walkG {l : PySem.W.OpenLaw} {n k : Nat} {q : Program} {loose : List Str} {XP : (Str → Option Value) → Heap → Prop} {YP : World → Heap → Prop} {d : DefRec} {x : Str}
    (hn : l.most = some n) (hn2 : n ≤ sizeLine) (hdf : d.params.defaults = []) (hr : Room k callerA)
    (F : ∀ (w : World) (mg : Str → Option Value) (fa : Addr) (h : Heap), YP w h → h.Ns mainGlobals mg → mg d.name = some (.ref fa) →
      ∃ (K : PySem.W.Frag) (fd : FuncData) (sp : Sp), K.In h ∧ (∀ (s : Shared) (u : Value), BindsTo s fd ⟨[u], []⟩ [(x, u)]) ∧
        (∀ (H : Hp) (a : Addr) (ns : List Int), ns.length ≤ n → SqL K H a (ns.map V.int) → sp [.ref a] H (fun v _ => v = .bl true) fun _ _ _ => False) ∧
        ∀ base : Heap, K.In base → base.Ns mainGlobals mg → FnG l.prog w K mg base (L2.CX l.prog w) k fa fd [x] sp) :
    PySem.W.WalkO q loose XP YP l.row.toRowW d [] (fun f vs => PySem.call f vs) := by
  refine Att.attach_call hn hdf fun w z₀ z₁ mg mb fa o pm cd doc a vs ns G Y ho hd hcd hmg hobj hints hlen hg => ?_
  obtain ⟨K, fd, sp, KX, hb, hsp, hF⟩ := F w mg fa _ Y G.T.g hmg
  exact law_callG KX G.T.g G.T.b G.T.builtins G.T.nolimit hg hobj hints (Nat.le_trans hlen hn2) hr hF hb fun H hS => hsp H a ns hlen hS
end
end Dv

/-! Dv13: what is observed behind the top: defs by address, facts. -/
namespace Dv
open PySem PySem.Spec L2 He
/-- a def: how its function object is found -/
structure DefP where
  ad : PySem.W.Frag → Addr
  name : Str
  qual : Str
  st : Stmt
def fnP (K : PySem.W.Frag) (a : Addr) : FnW := match K.lookup a with
  | some ⟨_, _, .func fd, _⟩ => some (fd.name, fd.qualname, fd.params, fd.body, fd.scope, fd.globals, fd.closure, fd.builtins)
  | _ => none
def DefP.val (d : DefP) : FnW := some (d.name, d.qual, defArgs d.st, .stmts (defBody d.st), defScope d.st, mainGlobals, [], builtinsNs)
def DefP.ok (K : PySem.W.Frag) (d : DefP) : Bool := PySem.W.keepIn K (.ref (d.ad K)) && (match K.lookup (d.ad K) with
  | some ⟨_, _, .func fd, _⟩ => PySem.W.codeIn K fd.code d.qual && (dflB K fd.defaults [] && kwdB K fd.kwdefaults [])
  | _ => false)
theorem DefP.df {K : PySem.W.Frag} {d : DefP} (e : fnP K (d.ad K) = d.val) (c : d.ok K = true) : Df K (d.ad K) d.name d.qual d.st := by
  obtain ⟨kp, c2⟩ := ba c
  unfold fnP at e
  generalize hA : d.ad K = a at e c2 kp
  cases hq : K.lookup a with
  | none => rw [hq] at c2; cases c2
  | some o =>
    obtain ⟨oc, od, dt, osl⟩ := o
    rw [hq] at c2 e
    cases dt with
    | func fd =>
      obtain ⟨f1, f2, f3, f4, f5, f6, f7, f8, f9, f10, f11, f12, f13, f14, f15⟩ := fd
      have e2 : (some (f1, f2, f3, f4, f5, f6, f7, f15) : FnW) = some (d.name, d.qual, defArgs d.st, .stmts (defBody d.st), defScope d.st, mainGlobals, [], builtinsNs) := e
      simp only [Option.some.injEq, Prod.mk.injEq] at e2
      obtain ⟨g1, g2, g3, g4, g5, g6, g7, g8⟩ := e2
      subst g1 g2 g3 g4 g5 g6 g7 g8
      obtain ⟨k1, k2⟩ := ba (show (PySem.W.codeIn K f13 d.qual && (dflB K f8 [] && kwdB K f9 [])) = true from c2)
      obtain ⟨k3, k4⟩ := ba k2
      exact ⟨_, ⟨oc, od, f8, f9, f10, f11, f12, f13, f14, osl, rfl, hq, k1, dflB_ok k3, kwdB_ok k4⟩, kp⟩
    | _ => cases c2
abbrev AlP : Type := Bool × List FnW
def obsP (ex : PySem.W.Frag → Bool) (fn : List DefP) (K : PySem.W.Frag) : AlP := (ex K && fn.all fun d => d.ok K, fn.map fun d => fnP K (d.ad K))
def valP (fn : List DefP) : AlP := (true, fn.map DefP.val)
def SaysP (ex : PySem.W.Frag → Bool) (fn : List DefP) (K : PySem.W.Frag) : Prop := obsP ex fn K = valP fn
def obsPG (n : Nat) (ex : PySem.W.Frag → Bool) (fn : List DefP) (g : Addr → Option Obj) : AlP := obsP ex fn (frG g (asD g n))
def hookP (n : Nat) (ex : PySem.W.Frag → Bool) (fn : List DefP) : PySem.W.Hook where
  α := AlP
  obs := fun z => obsPG n ex fn z.heap.get?
  val := fun _ => valP fn
  says := fun _ h => ∃ K : PySem.W.Frag, K.In h ∧ SaysP ex fn K
  of := fun _ _ e => ⟨_, frG_in, e⟩
  keeps := fun _ _ _ ⟨K, hK, c⟩ k => ⟨K, PySem.W.Frag.In.keeps hK k, c⟩
theorem obsPG_eq {n : Nat} {ex : PySem.W.Frag → Bool} {fn : List DefP} {g : Addr → Option Obj} {z : Shared} (h : ∀ a, g a = z.heap.get? a) : obsPG n ex fn g = (hookP n ex fn).obs z := by
  have e : g = z.heap.get? := funext h
  rw [e] <;> rfl
section
variable {ex : PySem.W.Frag → Bool} {fn : List DefP} {K : PySem.W.Frag}
theorem SaysP.more (c : SaysP ex fn K) : ex K = true := (ba (show (ex K && fn.all fun d => d.ok K) = true from congrArg (fun z : AlP => z.1) c)).1
theorem SaysP.df (c : SaysP ex fn K) (i : Nat) {d : DefP} (h : fn[i]? = some d := by rfl) : Df K (d.ad K) d.name d.qual d.st := by
  have c2 := (ba (show (ex K && fn.all fun d => d.ok K) = true from congrArg (fun z : AlP => z.1) c)).2
  have e : fn.map (fun d => fnP K (d.ad K)) = fn.map DefP.val := congrArg (fun z : AlP => z.2) c
  have e2 : (fn.map fun d => fnP K (d.ad K))[i]? = (fn.map DefP.val)[i]? := by rw [e]
  rw [List.getElem?_map, List.getElem?_map, h] at e2
  exact DefP.df (Option.some.inj e2) (List.all_eq_true.mp c2 d (List.mem_of_getElem? h))
end
/-! ### facts -/
def allB : List Bool → Bool
  | [] => true
  | b :: r => b && allB r
theorem allB_at : ∀ {l : List Bool} {i : Nat} {b : Bool}, allB l = true → l[i]? = some b → b = true
  | [], _, _, _, e => by simp at e
  | c :: r, 0, b, h, e => by
    have e' : c = b := by simpa using e
    rw [← e']
    exact (ba h).1
  | c :: r, i + 1, b, h, e => allB_at (ba h).2 (by simpa using e)
def propB (K : PySem.W.Frag) (C : Addr) (f : Str) : Bool := eqO (PySem.W.findIn K (.ref C) f) (some (some (.ref (ma K C f)))) && (eqO (PySem.W.specialIn K (.ref (ma K C f)) "__get__") (some (some (.builtin "property.__get__"))) && (decide (PySem.W.takesIn K (.ref (ma K C f)) = some true) &&
  (match PySem.W.recIn K (ma K C f) "property" with
  | some (.ref _ :: _) => true
  | _ => false)))
theorem propB_ok {K : PySem.W.Frag} {C : Addr} {f : Str} (h : propB K C f = true) : PropOf K C f (ma K C f) (pa K C f) := by
  obtain ⟨h1, h2⟩ := ba h
  obtain ⟨h3, h4⟩ := ba h2
  obtain ⟨h5, h6⟩ := ba h4
  refine ⟨eqO_ok h1, eqO_ok h3, of_decide_eq_true h5, ?_⟩
  unfold pa
  cases q : PySem.W.recIn K (ma K C f) "property" with
  | none => rw [q] at h6; cases h6
  | some l =>
    rw [q] at h6
    cases l with
    | nil => cases h6
    | cons v r =>
      cases v <;> try (cases h6; done)
      exact ⟨r, rfl⟩
def clsB (K : PySem.W.Frag) (C : Addr) : Bool := PySem.W.plainGet K C Str.empty && (PySem.W.hasDictIn K C && (PySem.W.plainOver K C && eqO (PySem.W.findIn K (.ref C) "__setattr__") (some (some (.builtin "object.__setattr__")))))
theorem clsB_ok {K : PySem.W.Frag} {C : Addr} (h : clsB K C = true) : Cls K C := by
  obtain ⟨h1, h2⟩ := ba h
  obtain ⟨h3, h4⟩ := ba h2
  obtain ⟨h5, h6⟩ := ba h4
  exact ⟨h1, h3, h5, eqO_ok h6⟩
def methB (K : PySem.W.Frag) (C : Addr) (m : Str) : Bool := eqO (PySem.W.findIn K (.ref C) m) (some (some (.ref (ma K C m)))) && (PySem.W.isFn K (.ref (ma K C m)) && PySem.W.keepIn K (.ref (ma K C m)))
theorem methB_ok {K : PySem.W.Frag} {C : Addr} {m : Str} (h : methB K C m = true) : Meth K C m (ma K C m) := by
  obtain ⟨h1, h2⟩ := ba h
  obtain ⟨h3, h4⟩ := ba h2
  exact ⟨eqO_ok h1, h3, h4⟩
def mkB (K : PySem.W.Frag) (C : Addr) : Bool := PySem.W.makesIn K C && (eqO (PySem.W.findIn K (.ref C) "__init__") (some (some (.ref (ma K C "__init__")))) && (PySem.W.isFn K (.ref (ma K C "__init__")) && PySem.W.keepIn K (.ref C)))
theorem mkB_ok {K : PySem.W.Frag} {C : Addr} (h : mkB K C = true) : L2.Mk K C (ma K C "__init__") := by
  obtain ⟨h1, h2⟩ := ba h
  obtain ⟨h3, h4⟩ := ba h2
  obtain ⟨h5, h6⟩ := ba h4
  exact ⟨h1, eqO_ok h3, h5, h6⟩
def kok1 (K : PySem.W.Frag) (C : Addr) (fs : List Str) : Bool := clsB K C && (eqO (PySem.W.findIn K (.ref C) "__class__") (some (some (.builtin "object.__class__"))) && (decide (PySem.W.mroIn K C (.type "object") = some true) &&
  ((tgNames.all fun n => decide (PySem.W.kitOne K (.ref C) (.type n) = some false)) && ((tyNames.all fun n => decide (PySem.W.kitOne K (.type n) (.ref C) = some false)) && fs.all fun f => eqO (PySem.W.findIn K (.ref C) f) (some none)))))
def kokB (K : PySem.W.Frag) (n : Nat) (cl : Nat → Addr) (fl : Nat → List Str) : Bool := eqO (PySem.W.specialIn K (.builtin "object.__class__") "__get__") (some (some (.builtin "getset_descriptor.__get__"))) && (decide (PySem.W.takesIn K (.builtin "object.__class__") = some true) &&
  (((List.range n).all fun c => kok1 K (cl c) (fl c)) && (List.range n).all fun c => (List.range n).all fun d => decide (PySem.W.kitOne K (.ref (cl c)) (.ref (cl d)) = some (decide (c = d)))))
theorem kok_of {K : PySem.W.Frag} {n : Nat} {cl : Nat → Addr} {fl : Nat → List Str} (h : kokB K n cl fl = true) (hs : Bool) (pd pg pc : Addr) : KOk ⟨K, n, cl, fl, hs, pd, pg, pc⟩ := by
  obtain ⟨h1, h2⟩ := ba h
  obtain ⟨h3, h4⟩ := ba h2
  obtain ⟨h5, h6⟩ := ba h4
  have one : ∀ c, c < n → Cls K (cl c) ∧ PySem.W.findIn K (.ref (cl c)) "__class__" = some (some (.builtin "object.__class__")) ∧ PySem.W.mroIn K (cl c) (.type "object") = some true ∧ (∀ m ∈ tgNames, PySem.W.kitOne K (.ref (cl c)) (.type m) = some false) ∧ (∀ m ∈ tyNames, PySem.W.kitOne K (.type m) (.ref (cl c)) = some false) ∧ ∀ f ∈ fl c, NoAttr K (cl c) f := fun c hc => by
    obtain ⟨k1, k2⟩ := ba (List.all_eq_true.mp h5 c (List.mem_range.mpr hc))
    obtain ⟨k3, k4⟩ := ba k2
    obtain ⟨k5, k6⟩ := ba k4
    obtain ⟨k7, k8⟩ := ba k6
    obtain ⟨k9, k10⟩ := ba k8
    exact ⟨clsB_ok k1, eqO_ok k3, of_decide_eq_true k5, fun m hm => of_decide_eq_true (List.all_eq_true.mp k7 m hm), fun m hm => of_decide_eq_true (List.all_eq_true.mp k9 m hm), fun f hf => eqO_ok (List.all_eq_true.mp k10 f hf)⟩
  exact ⟨fun c hc H a dx fs e => .base (.ins e (one c hc).1 (one c hc).2.1 (eqO_ok h1) (of_decide_eq_true h3) (one c hc).2.2.1), fun c hc => (one c hc).2.2.2.1, fun c hc => (one c hc).2.2.2.2.1,
    fun c d hc hd => of_decide_eq_true (List.all_eq_true.mp (List.all_eq_true.mp h6 c (List.mem_range.mpr hc)) d (List.mem_range.mpr hd)), fun c hc => (one c hc).1, fun c hc => (one c hc).2.2.2.2.2⟩
def tupV (K : PySem.W.Frag) (x : Str) (vs : List V) : Bool := match K.lookup (ga K x) with
  | some ⟨.type c, _, .seq its _, _⟩ => decide (c = "tuple") && (decide (its.size ≤ sizeLine) && relAll vs its.toList)
  | _ => false
theorem tupV_ok {K : PySem.W.Frag} {x : Str} {vs : List V} (h : tupV K x vs = true) (H : Hp) : SqT K H (ga K x) vs := by
  unfold tupV at h
  cases hq : K.lookup (ga K x) with
  | none => rw [hq] at h; cases h
  | some o =>
    obtain ⟨oc, od, dt, osl⟩ := o
    rw [hq] at h
    cases oc with
    | type c =>
      cases dt with
      | seq its n =>
        obtain ⟨g1, g2⟩ := ba (show (decide (c = "tuple") && (decide (its.size ≤ sizeLine) && relAll vs its.toList)) = true from h)
        obtain ⟨g3, g4⟩ := ba g2
        exact .inr ⟨_, its, n, hq, congrArg Value.type (of_decide_eq_true g1), rfl, of_decide_eq_true g3, relAll_ok g4⟩
      | _ => cases h
    | _ => cases dt <;> cases h
end Dv

namespace Lw
open PySem PySem.Spec L2 Dv He
def top (i : Nat) : Stmt := PySem.Challenge.pw_roundrates_k68_whole_links_between.main.body.getD i (.Pass ⟨0, 0, 0, 0⟩)
def cbody : Stmt → List Stmt
  | .ClassDef (body := b) .. => b
  | _ => []
def mem (i j : Nat) : Stmt := (cbody (top i)).getD j (.Pass ⟨0, 0, 0, 0⟩)
def fl : Nat → List Str
  | 0 => [("own_ends" : Str)]
  | 1 => [("own_length" : Str), ("own_looks" : Str)]
  | _ => []
abbrev mkG (K : PySem.W.Frag) (cl : Nat → Addr) (hs : Bool) (pd pg pc : Addr) : Gh := ⟨K, 2, cl, fl, hs, pd, pg, pc⟩
def tv_WORDS : List V := [.str "is", .str "by", .str "after"]
def tc_WORDS : List D := [.str "is", .str "by", .str "after"]
theorem rep_WORDS {G : Gh} {F : Hp} : RepL G F tc_WORDS tv_WORDS := (.cons rfl (.cons rfl (.cons rfl .nil)))
structure Raw (K : PySem.W.Frag) (mg : Str → Option Value) (cl : Nat → Addr) : Prop where
  KO : ∀ hs pd pg pc, KOk (mkG K cl hs pd pg pc)
  glaw_mixed : mg "_law_mixed" = some (.ref (ga K "_law_mixed"))
  klaw_mixed : PySem.W.keepIn K (.ref (ga K "_law_mixed")) = true
  bint : mg "int" = none
  flaw_mixed : Df K (ga K "_law_mixed") "_law_mixed" "_law_mixed" (top 38)
  flaw_draw : Df K (ga K "_law_draw") "_law_draw" "_law_draw" (top 39)
  glaw_draw : mg "_law_draw" = some (.ref (ga K "_law_draw"))
  klaw_draw : PySem.W.keepIn K (.ref (ga K "_law_draw")) = true
  blen : mg "len" = none
  flaw_pick : Df K (ga K "_law_pick") "_law_pick" "_law_pick" (top 40)
  blist : mg "list" = none
  btuple : mg "tuple" = none
  bisinstance : mg "isinstance" = none
  glaw_plain : mg "_law_plain" = some (.ref (ga K "_law_plain"))
  klaw_plain : PySem.W.keepIn K (.ref (ga K "_law_plain")) = true
  bdict : mg "dict" = none
  bstr : mg "str" = none
  flaw_plain : Df K (ga K "_law_plain") "_law_plain" "_law_plain" (top 41)
  flaw_says : Df K (ga K "_law_says") "_law_says" "_law_says" (top 43)
  flaw_go : Df K (ga K "_law_go") "_law_go" "_law_go" (top 45)
  glaw_pick : mg "_law_pick" = some (.ref (ga K "_law_pick"))
  klaw_pick : PySem.W.keepIn K (.ref (ga K "_law_pick")) = true
  flaw_some_length : Df K (ga K "_law_some_length") "_law_some_length" "_law_some_length" (top 46)
  glaw_some_ends : mg "_law_some_ends" = some (.ref (ga K "_law_some_ends"))
  klaw_some_ends : PySem.W.keepIn K (.ref (ga K "_law_some_ends")) = true
  brange : mg "range" = none
  glaw_some_look : mg "_law_some_look" = some (.ref (ga K "_law_some_look"))
  klaw_some_look : PySem.W.keepIn K (.ref (ga K "_law_some_look")) = true
  glaw_map : mg "_law_map" = some (.ref (ga K "_law_map"))
  klaw_map : PySem.W.keepIn K (.ref (ga K "_law_map")) = true
  glaw_some_rides : mg "_law_some_rides" = some (.ref (ga K "_law_some_rides"))
  klaw_some_rides : PySem.W.keepIn K (.ref (ga K "_law_some_rides")) = true
  bmin : mg "min" = none
  flaw_map : Df K (ga K "_law_map") "_law_map" "_law_map" (top 44)
  flaw_some_rides : Df K (ga K "_law_some_rides") "_law_some_rides" "_law_some_rides" (top 47)
  flaw_some_ends : Df K (ga K "_law_some_ends") "_law_some_ends" "_law_some_ends" (top 49)
  glaw_go : mg "_law_go" = some (.ref (ga K "_law_go"))
  klaw_go : PySem.W.keepIn K (.ref (ga K "_law_go")) = true
  flaw_some_look : Df K (ga K "_law_some_look") "_law_some_look" "_law_some_look" (top 48)
  flaw_some_seen : Df K (ga K "_law_some_seen") "_law_some_seen" "_law_some_seen" (top 52)
  flaw_has : Df K (ga K "_law_has") "_law_has" "_law_has" (top 50)
  bmax : mg "max" = none
  flaw_bounds : Df K (ga K "_law_bounds") "_law_bounds" "_law_bounds" (top 51)
  bzip : mg "zip" = none
  flaw_between : Df K (ga K "_law_between") "_law_between" "_law_between" (top 53)
  gDaily : mg "Daily" = some (.ref (cl 0))
  mkDaily : L2.Mk K (cl 0) (ma K (cl 0) "__init__")
  benumerate : mg "enumerate" = none
  gneed_length : mg "need_length" = some (.ref (ga K "need_length"))
  kneed_length : PySem.W.keepIn K (.ref (ga K "need_length")) = true
  iMOST_RIDES : ∃ t, mg "MOST_RIDES" = some (.int 60 t)
  gis_ride : mg "is_ride" = some (.ref (ga K "is_ride"))
  kis_ride : PySem.W.keepIn K (.ref (ga K "is_ride")) = true
  gends_of : mg "ends_of" = some (.ref (ga K "ends_of"))
  kends_of : PySem.W.keepIn K (.ref (ga K "ends_of")) = true
  gis_length : mg "is_length" = some (.ref (ga K "is_length"))
  kis_length : PySem.W.keepIn K (.ref (ga K "is_length")) = true
  gis_number : mg "is_number" = some (.ref (ga K "is_number"))
  kis_number : PySem.W.keepIn K (.ref (ga K "is_number")) = true
  iMOST_LENGTH : ∃ t, mg "MOST_LENGTH" = some (.int 60 t)
  bbool : mg "bool" = none
  fis_number : Df K (ga K "is_number") "is_number" "is_number" (top 12)
  fis_length : Df K (ga K "is_length") "is_length" "is_length" (top 17)
  fneed_length : Df K (ga K "need_length") "need_length" "need_length" (top 18)
  fis_ride : Df K (ga K "is_ride") "is_ride" "is_ride" (top 13)
  fends_of : Df K (ga K "ends_of") "ends_of" "ends_of" (top 22)
  fDaily___init : Df K (ma K (cl 0) "__init__") "__init__" "Daily.__init__" (mem 24 0)
  flaw_daily : Df K (ga K "_law_daily") "_law_daily" "_law_daily" (top 54)
  iMOST_LOOKS : ∃ t, mg "MOST_LOOKS" = some (.int 30 t)
  gis_look : mg "is_look" = some (.ref (ga K "is_look"))
  kis_look : PySem.W.keepIn K (.ref (ga K "is_look")) = true
  gis_alone_against : mg "is_alone_against" = some (.ref (ga K "is_alone_against"))
  kis_alone_against : PySem.W.keepIn K (.ref (ga K "is_alone_against")) = true
  gare_against : mg "are_against" = some (.ref (ga K "are_against"))
  kare_against : PySem.W.keepIn K (.ref (ga K "are_against")) = true
  tWORDS : mg "WORDS" = some (.ref (ga K "WORDS")) ∧ ∀ H : Hp, SqT K H (ga K "WORDS") tv_WORDS
  fis_look : Df K (ga K "is_look") "is_look" "is_look" (top 28)
  gmost_by : mg "most_by" = some (.ref (ga K "most_by"))
  kmost_by : PySem.W.keepIn K (.ref (ga K "most_by")) = true
  fmost_by : Df K (ga K "most_by") "most_by" "most_by" (top 30)
  fis_alone_against : Df K (ga K "is_alone_against") "is_alone_against" "is_alone_against" (top 34)
  gleast_by : mg "least_by" = some (.ref (ga K "least_by"))
  kleast_by : PySem.W.keepIn K (.ref (ga K "least_by")) = true
  fleast_by : Df K (ga K "least_by") "least_by" "least_by" (top 29)
  fare_against : Df K (ga K "are_against") "are_against" "are_against" (top 33)
  fSeenDaily___init : Df K (ma K (cl 1) "__init__") "__init__" "SeenDaily.__init__" (mem 35 0)
  gdaily_by : mg "daily_by" = some (.ref (ga K "daily_by"))
  kdaily_by : PySem.W.keepIn K (.ref (ga K "daily_by")) = true
  mSeenDaily_least_ends : Meth K (cl 1) "least_ends" (ma K (cl 1) "least_ends")
  fdaily_by : Df K (ga K "daily_by") "daily_by" "daily_by" (top 23)
  gleast_end : mg "least_end" = some (.ref (ga K "least_end"))
  kleast_end : PySem.W.keepIn K (.ref (ga K "least_end")) = true
  fleast_end : Df K (ga K "least_end") "least_end" "least_end" (top 31)
  fSeenDaily_least_ends : Df K (ma K (cl 1) "least_ends") "least_ends" "SeenDaily.least_ends" (mem 35 3)
  fSeenDaily_least : Df K (ma K (cl 1) "least") "least" "SeenDaily.least" (mem 35 5)
  mSeenDaily_most_ends : Meth K (cl 1) "most_ends" (ma K (cl 1) "most_ends")
  gmost_end : mg "most_end" = some (.ref (ga K "most_end"))
  kmost_end : PySem.W.keepIn K (.ref (ga K "most_end")) = true
  fmost_end : Df K (ga K "most_end") "most_end" "most_end" (top 32)
  fSeenDaily_most_ends : Df K (ma K (cl 1) "most_ends") "most_ends" "SeenDaily.most_ends" (mem 35 4)
  fSeenDaily_greatest : Df K (ma K (cl 1) "greatest") "greatest" "SeenDaily.greatest" (mem 35 6)
  pDaily_length : PropOf K (cl 0) "length" (ma K (cl 0) "length") (pa K (cl 0) "length")
  mDaily_end : Meth K (cl 0) "end" (ma K (cl 0) "end")
  fDaily_length : Df K (pa K (cl 0) "length") "length" "Daily.length" (mem 24 1)
  gneed_numbers : mg "need_numbers" = some (.ref (ga K "need_numbers"))
  kneed_numbers : PySem.W.keepIn K (.ref (ga K "need_numbers")) = true
  gled_on : mg "led_on" = some (.ref (ga K "led_on"))
  kled_on : PySem.W.keepIn K (.ref (ga K "led_on")) = true
  ball : mg "all" = none
  fneed_numbers : Df K (ga K "need_numbers") "need_numbers" "need_numbers" (top 19)
  fled_on : Df K (ga K "led_on") "led_on" "led_on" (top 20)
  fDaily_end : Df K (ma K (cl 0) "end") "end" "Daily.end" (mem 24 3)
  fSeenDaily_fits : Df K (ma K (cl 1) "fits") "fits" "SeenDaily.fits" (mem 35 9)
  fDaily___eq : Df K (ma K (cl 0) "__eq__") "__eq__" "Daily.__eq__" (mem 24 6)
  glaw_some_length : mg "_law_some_length" = some (.ref (ga K "_law_some_length"))
  klaw_some_length : PySem.W.keepIn K (.ref (ga K "_law_some_length")) = true
  glaw_some_seen : mg "_law_some_seen" = some (.ref (ga K "_law_some_seen"))
  klaw_some_seen : PySem.W.keepIn K (.ref (ga K "_law_some_seen")) = true
  gSeenDaily : mg "SeenDaily" = some (.ref (cl 1))
  mkSeenDaily : L2.Mk K (cl 1) (ma K (cl 1) "__init__")
  glaw_bounds : mg "_law_bounds" = some (.ref (ga K "_law_bounds"))
  klaw_bounds : PySem.W.keepIn K (.ref (ga K "_law_bounds")) = true
  mSeenDaily_greatest : Meth K (cl 1) "greatest" (ma K (cl 1) "greatest")
  mSeenDaily_least : Meth K (cl 1) "least" (ma K (cl 1) "least")
  glaw_is : mg "_law_is" = some (.ref (ga K "_law_is"))
  klaw_is : PySem.W.keepIn K (.ref (ga K "_law_is")) = true
  glaw_daily : mg "_law_daily" = some (.ref (ga K "_law_daily"))
  klaw_daily : PySem.W.keepIn K (.ref (ga K "_law_daily")) = true
  mDaily___eq : Meth K (cl 0) "__eq__" (ma K (cl 0) "__eq__")
  mSeenDaily_fits : Meth K (cl 1) "fits" (ma K (cl 1) "fits")
  glaw_between : mg "_law_between" = some (.ref (ga K "_law_between"))
  klaw_between : PySem.W.keepIn K (.ref (ga K "_law_between")) = true
  glaw_has : mg "_law_has" = some (.ref (ga K "_law_has"))
  klaw_has : PySem.W.keepIn K (.ref (ga K "_law_has")) = true
  glaw_says : mg "_law_says" = some (.ref (ga K "_law_says"))
  klaw_says : PySem.W.keepIn K (.ref (ga K "_law_says")) = true
  brepr : mg "repr" = none
  flaw_is : Df K (ga K "_law_is") "_law_is" "_law_is" (top 42)
  flaw : Df K (ga K "law") "law" "law" (top 55)
  glaw : mg "law" = some (.ref (ga K "law"))
  klaw : PySem.W.keepIn K (.ref (ga K "law")) = true
  babs : mg "abs" = none
  flaw_begun : Df K (ga K "_law_begun") "_law_begun" "_law_begun" (top 37)
  glaw_begun : mg "_law_begun" = some (.ref (ga K "_law_begun"))
  klaw_begun : PySem.W.keepIn K (.ref (ga K "_law_begun")) = true
/-! ### _law_mixed -/
def b_law_mixed : SM := (sSeq (sPar 1 2 (zD (m2 dAdd (mSt 0 .turn) (mC (.int 1)))) (zD (mC (.int 0)))) (sSeq (sSt 0 .turn (mV 1)) (sSeq (sFor (iD (mA dLst (mCons (mC (.int 2147483477)) (mCons (mC (.int 2147483423)) (mCons (mC (.int 2147483399)) (mCons (mC (.int 2147483353)) mNil)))))) (gN 3) (sSeq (sSet 4 (m2 dAdd (m2 dMul (mC (.int 69621)) (mV 1)) (m2 dDiv (mV 3) (mC (.int 41))))) (sSeq (sFor (iD (mSt 0 .cells)) (gN 5) (sSet 4 (m2 dMod (mA dInt (mCons (m2 dAdd (m2 dAdd (m2 dMul (mV 4) (mC (.int 48271))) (mV 5)) (mV 1)) mNil)) (mV 3)))) (sSet 2 (m2 dAdd (m2 dMul (mV 2) (mC (.int 2147483659))) (m2 dMod (mA dInt (mCons (m2 dPow (mV 4) (mC (.int 5))) mNil)) (mV 3))))))) (sRet (mV 2)))))
def d_law_mixed : List D → M D := dn 1 6 b_law_mixed
theorem ok_law_mixed {P : Program} {w : World} {K : PySem.W.Frag} {mg : Str → Option Value} {base : Heap} {cl : Nat → Addr} {hs : Bool} {pd pg pc : Addr} (R : Raw K mg cl) : Ok P w K mg base 1 (ga K "_law_mixed") [("state" : Str)] (spD (mkG K cl hs pd pg pc) d_law_mixed) :=
  ok_def (G := (mkG K cl hs pd pg pc)) (N := [("state" : Str), ("turn" : Str), ("found" : Str), ("prime" : Str), ("blend" : Str), ("cell" : Str)]) (ps := [("state" : Str)]) R.flaw_mixed ⟨rfl, rfl, rfl, by decide +kernel, rfl, by decide +kernel, by decide +kernel⟩ (fun _ _ _ _ _ _ us hl => match us, hl with | [_], _ => rfl) rfl (by decide) fun cdv A outer s F H E c => by
      refine dss_cons ?_ ?_
      · exact (ds_par (i := 1) (j := 2) c (by decide) rfl rfl (dz_de (de_add c (de_stget .turn c) de_int)) (dz_de de_int) rfl rfl (by rfl) (by rfl))
      refine dss_cons ?_ ?_
      · exact (ds_stput (i := 0) .turn c (de_v 1))
      refine dss_cons ?_ ?_
      · refine ds_for (vs := [3]) c owns_def (di_seq c (de_lst (da_cons de_int (da_cons de_int (da_cons de_int (da_cons de_int da_nil)))))) (dg_name c (by decide)) ?_
        refine dss_cons ?_ ?_
        · exact (ds_set (i := 4) c (de_add c (de_mul de_int (de_v 1)) (de_div (de_v 3) de_int)))
        refine dss_cons ?_ ?_
        · refine ds_for (vs := [5]) c owns_def (di_seq c (de_stget .cells c)) (dg_name c (by decide)) ?_
          refine dss_one ?_
          exact (ds_set (i := 4) c (de_mod (de_callTy call_int1 cal_int rfl R.bint (da_cons (de_add c (de_add c (de_mul (de_v 4) de_int) (de_v 5)) (de_v 1)) da_nil)) (de_v 3)))
        refine dss_one ?_
        exact (ds_set (i := 2) c (de_add c (de_mul (de_v 2) de_int) (de_mod (de_callTy call_int1 cal_int rfl R.bint (da_cons (de_pow (de_v 4) de_int) da_nil)) (de_v 3))))
      refine dss_one ?_
      exact (ds_ret (de_v 2))
/-! ### _law_draw -/
def b_law_draw : SM := (sSeq (sIf (mB (m2 dEq (mSt 0 .rest) (mC (.int 0)))) (sSt 0 .rest (mIte (mGr 0) (mPop 0) (mCall d_law_mixed (mCons (mV 0) mNil)))) sNext) (sSeq (sSet 2 (m2 dMod (mA dInt (mCons (mSt 0 .rest) mNil)) (mV 1))) (sSeq (sSt 0 .rest (m2 dDiv (mSt 0 .rest) (mV 1))) (sRet (mV 2)))))
def d_law_draw : List D → M D := dn 2 3 b_law_draw
theorem ok_law_draw {P : Program} {w : World} {K : PySem.W.Frag} {mg : Str → Option Value} {base : Heap} {cl : Nat → Addr} {hs : Bool} {pd pg pc : Addr} (R : Raw K mg cl) : Ok P w K mg base 2 (ga K "_law_draw") [("state" : Str), ("room" : Str)] (spD (mkG K cl hs pd pg pc) d_law_draw) :=
  ok_def (G := (mkG K cl hs pd pg pc)) (N := [("state" : Str), ("room" : Str), ("found" : Str)]) (ps := [("state" : Str), ("room" : Str)]) R.flaw_draw ⟨rfl, rfl, rfl, by decide +kernel, rfl, by decide +kernel, by decide +kernel⟩ (fun _ _ _ _ _ _ us hl => match us, hl with | [_, _], _ => rfl) rfl (by decide) fun cdv A outer s F H E c => by
      refine dss_cons ?_ ?_
      · refine ds_if ?_ ?_ ?_
        · exact (dt_cm (op_eqc c) opd_eq (nomark _) (de_stget .rest c) de_int)
        · refine dss_one ?_
          exact (ds_stput (i := 0) .rest c (de_if (dt_great c) (de_pop c) (dc_call c (by decide) (ok_law_mixed R) rfl R.glaw_mixed R.klaw_mixed (da_cons (de_v 0) da_nil))))
        · exact dss_nil
      refine dss_cons ?_ ?_
      · exact (ds_set (i := 2) c (de_mod (de_callTy call_int1 cal_int rfl R.bint (da_cons (de_stget .rest c) da_nil)) (de_v 1)))
      refine dss_cons ?_ ?_
      · exact (ds_stput (i := 0) .rest c (de_div (de_stget .rest c) (de_v 1)))
      refine dss_one ?_
      exact (ds_ret (de_v 2))
/-! ### _law_pick -/
def b_law_pick : SM := (sRet (m2 dIx (mV 1) (mCall d_law_draw (mCons (mV 0) (mCons (mA dLen (mCons (mV 1) mNil)) mNil)))))
def d_law_pick : List D → M D := dn 2 2 b_law_pick
theorem ok_law_pick {P : Program} {w : World} {K : PySem.W.Frag} {mg : Str → Option Value} {base : Heap} {cl : Nat → Addr} {hs : Bool} {pd pg pc : Addr} (R : Raw K mg cl) : Ok P w K mg base 3 (ga K "_law_pick") [("state" : Str), ("some" : Str)] (spD (mkG K cl hs pd pg pc) d_law_pick) :=
  ok_def (G := (mkG K cl hs pd pg pc)) (N := [("state" : Str), ("some" : Str)]) (ps := [("state" : Str), ("some" : Str)]) R.flaw_pick ⟨rfl, rfl, rfl, by decide +kernel, rfl, by decide +kernel, by decide +kernel⟩ (fun _ _ _ _ _ _ us hl => match us, hl with | [_, _], _ => rfl) rfl (by decide) fun cdv A outer s F H E c => by
      refine dss_one ?_
      exact (ds_ret (de_ix c (de_v 1) (dc_call c (by decide) (ok_law_draw R) rfl R.glaw_draw R.klaw_draw (da_cons (de_v 0) (da_cons (de_callB (callr_len c) cal_len rfl R.blen (da_cons (de_v 1) da_nil)) da_nil)))))
/-! ### _law_plain -/
def b_law_plain (rec : List D → M D) : SM := (sSeq (sIf (mB (mIsiT 2 (.bi "list") [(.bi "tuple")] (mV 0))) (sRet (m2 dEq (eLc [1] (iD (mV 0)) (gN 1) (mNotT (mB (mCall rec (mCons (mV 1) mNil)))) (mC (.int 1))) (mA dLst mNil))) sNext) (sSeq (sIf (mB (mIsi 2 (.bi "dict") (mV 0))) sBad sNext) (sRet (mOrV (m2 dIs (mV 0) (mC .non)) (mIsiT 2 (.bi "int") [(.bi "str")] (mV 0))))))
def d_law_plain : Nat → List D → M D
  | 0 => fun _ => bad
  | n + 1 => dn 1 2 (b_law_plain (d_law_plain n))
theorem ok_law_plain {P : Program} {w : World} {K : PySem.W.Frag} {mg : Str → Option Value} {base : Heap} {cl : Nat → Addr} {hs : Bool} {pd pg pc : Addr} (R : Raw K mg cl) : ∀ n, Ok P w K mg base (1 + n) (ga K "_law_plain") [("value" : Str)] (spD (mkG K cl hs pd pg pc) (d_law_plain n))
  | 0 => by
    obtain ⟨fd, Df⟩ := R.flaw_plain
    exact ⟨fd, fn_bad, Df.bindsN (fun _ _ _ _ _ _ us hl => match us, hl with | [_], _ => rfl), lk_of Df⟩
  | n + 1 => by
    have Frec := ok_law_plain (P := P) (w := w) (base := base) (hs := hs) (pd := pd) (pg := pg) (pc := pc) R n
    exact ok_def (G := (mkG K cl hs pd pg pc)) (N := [("value" : Str), ("one" : Str)]) (ps := [("value" : Str)]) R.flaw_plain ⟨rfl, rfl, rfl, by decide +kernel, rfl, by decide +kernel, by decide +kernel⟩ (fun _ _ _ _ _ _ us hl => match us, hl with | [_], _ => rfl) rfl (by decide) fun cdv A outer s F H E c => by
      refine dss_cons ?_ ?_
      · refine ds_if ?_ ?_ ?_
        · exact (dt_val (de_isiT c (R.KO _ _ _ _) rfl (by decide) rfl R.bisinstance (de_v 0) (.cons (pe_bltn (v := .ty "list") rfl R.blist rfl rfl) (.cons (pe_bltn (v := .ty "tuple") rfl R.btuple rfl rfl) .nil rfl) rfl)))
        · refine dss_one ?_
          exact (ds_ret (de_cm (op_eqc c) opd_eq (nomark _) (de_lc (own := [(("one" : Str), 1)]) c (di_seq c (de_v 0)) (blkOk_by (by rfl)) (fun s1 H1 _ _ p1 => (dg_name (c.blk s1 H1 _ _ p1) (by decide))) (fun s1 H1 _ _ p1 => (dts_one (dt_not (dt_val (dc_call (c.blk s1 H1 _ _ p1) (Nat.le_refl _) Frec rfl R.glaw_plain R.klaw_plain (da_cons (de_v 1) da_nil)))))) (fun s1 H1 _ _ p1 => de_int)) (de_lst da_nil)))
        · exact dss_nil
      refine dss_cons ?_ ?_
      · refine ds_if ?_ ?_ ?_
        · exact (dt_val (de_isi c (R.KO _ _ _ _) rfl rfl R.bisinstance (de_v 0) (pe_bltn (v := .ty "dict") rfl R.bdict rfl rfl)))
        · refine dss_one ?_
          exact ds_bad
        · exact dss_nil
      refine dss_one ?_
      exact (ds_ret (de_or (de_cm op_isAll opd_is (nomark _) (de_v 0) de_non) (de_one (de_isiT c (R.KO _ _ _ _) rfl (by decide) rfl R.bisinstance (de_v 0) (.cons (pe_bltn (v := .ty "int") rfl R.bint rfl rfl) (.cons (pe_bltn (v := .ty "str") rfl R.bstr rfl rfl) .nil rfl) rfl)))))
/-! ### _law_says -/
def b_law_says : SM := (sRet (mIte (mB (mV 1)) (m2 dIs (mV 0) (mC (.bl true))) (m2 dIs (mV 0) (mC (.bl false)))))
def d_law_says : List D → M D := dn 2 2 b_law_says
theorem ok_law_says {P : Program} {w : World} {K : PySem.W.Frag} {mg : Str → Option Value} {base : Heap} {cl : Nat → Addr} {hs : Bool} {pd pg pc : Addr} (R : Raw K mg cl) : Ok P w K mg base 1 (ga K "_law_says") [("told" : Str), ("is_due" : Str)] (spD (mkG K cl hs pd pg pc) d_law_says) :=
  ok_def (G := (mkG K cl hs pd pg pc)) (N := [("told" : Str), ("is_due" : Str)]) (ps := [("told" : Str), ("is_due" : Str)]) R.flaw_says ⟨rfl, rfl, rfl, by decide +kernel, rfl, by decide +kernel, by decide +kernel⟩ (fun _ _ _ _ _ _ us hl => match us, hl with | [_, _], _ => rfl) rfl (by decide) fun cdv A outer s F H E c => by
      refine dss_one ?_
      exact (ds_ret (de_if (dt_val (de_v 1)) (de_cm op_isAll opd_is (nomark _) (de_v 0) de_bl) (de_cm op_isAll opd_is (nomark _) (de_v 0) de_bl)))
/-! ### _law_go -/
def b_law_go : SM := (sSeq (sSet 2 (mA dLen (mCons (mV 0) mNil))) (sRet (m2 dSub (m2 dAdd (m2 dIx (mV 0) (m2 dMod (mA dInt (mCons (mV 1) mNil)) (mV 2))) (mV 1)) (m2 dMod (mA dInt (mCons (mV 1) mNil)) (mV 2)))))
def d_law_go : List D → M D := dn 2 3 b_law_go
theorem ok_law_go {P : Program} {w : World} {K : PySem.W.Frag} {mg : Str → Option Value} {base : Heap} {cl : Nat → Addr} {hs : Bool} {pd pg pc : Addr} (R : Raw K mg cl) : Ok P w K mg base 1 (ga K "_law_go") [("ends" : Str), ("number" : Str)] (spD (mkG K cl hs pd pg pc) d_law_go) :=
  ok_def (G := (mkG K cl hs pd pg pc)) (N := [("ends" : Str), ("number" : Str), ("length" : Str)]) (ps := [("ends" : Str), ("number" : Str)]) R.flaw_go ⟨rfl, rfl, rfl, by decide +kernel, rfl, by decide +kernel, by decide +kernel⟩ (fun _ _ _ _ _ _ us hl => match us, hl with | [_, _], _ => rfl) rfl (by decide) fun cdv A outer s F H E c => by
      refine dss_cons ?_ ?_
      · exact (ds_set (i := 2) c (de_callB (callr_len c) cal_len rfl R.blen (da_cons (de_v 0) da_nil)))
      refine dss_one ?_
      exact (ds_ret (de_sub (de_add c (de_ix c (de_v 0) (de_mod (de_callTy call_int1 cal_int rfl R.bint (da_cons (de_v 1) da_nil)) (de_v 2))) (de_v 1)) (de_mod (de_callTy call_int1 cal_int rfl R.bint (da_cons (de_v 1) da_nil)) (de_v 2))))
/-! ### _law_some_length -/
def b_law_some_length : SM := (sRet (mCall d_law_pick (mCons (mV 0) (mCons (mA dLst (mCons (mC (.int 1)) (mCons (mC (.int 2)) (mCons (mC (.int 3)) (mCons (mC (.int 4)) (mCons (mC (.int 5)) (mCons (mC (.int 6)) (mCons (mC (.int 7)) (mCons (mC (.int 8)) (mCons (mC (.int 9)) (mCons (mC (.int 10)) (mCons (mC (.int 12)) (mCons (mC (.int 15)) (mCons (mC (.int 60)) (mCons (m2 dAdd (mC (.int 1)) (mCall d_law_draw (mCons (mV 0) (mCons (mC (.int 30)) mNil)))) mNil))))))))))))))) mNil))))
def d_law_some_length : List D → M D := dn 1 1 b_law_some_length
theorem ok_law_some_length {P : Program} {w : World} {K : PySem.W.Frag} {mg : Str → Option Value} {base : Heap} {cl : Nat → Addr} {hs : Bool} {pd pg pc : Addr} (R : Raw K mg cl) : Ok P w K mg base 4 (ga K "_law_some_length") [("state" : Str)] (spD (mkG K cl hs pd pg pc) d_law_some_length) :=
  ok_def (G := (mkG K cl hs pd pg pc)) (N := [("state" : Str)]) (ps := [("state" : Str)]) R.flaw_some_length ⟨rfl, rfl, rfl, by decide +kernel, rfl, by decide +kernel, by decide +kernel⟩ (fun _ _ _ _ _ _ us hl => match us, hl with | [_], _ => rfl) rfl (by decide) fun cdv A outer s F H E c => by
      refine dss_one ?_
      exact (ds_ret (dc_call c (by decide) (ok_law_pick R) rfl R.glaw_pick R.klaw_pick (da_cons (de_v 0) (da_cons (de_lst (da_cons de_int (da_cons de_int (da_cons de_int (da_cons de_int (da_cons de_int (da_cons de_int (da_cons de_int (da_cons de_int (da_cons de_int (da_cons de_int (da_cons de_int (da_cons de_int (da_cons de_int (da_cons (de_add c de_int (dc_call c (by decide) (ok_law_draw R) rfl R.glaw_draw R.klaw_draw (da_cons (de_v 0) (da_cons de_int da_nil)))) da_nil))))))))))))))) da_nil))))
/-! ### _law_map -/
def b_law_map : SM := (sSeq (sSetZ 2 (zLst mNil)) (sSeq (sFor (iRg1 (mV 0)) (gN 3) (sSeq (sSetZ 4 (zLst mNil)) (sSeq (sFor (iD (mV 1)) (gT 2 (gC (gN 5) (gC (gN 6) gE))) (sSeq (sSet 7 (m2 dMod (mA dInt (mCons (mV 5) mNil)) (mV 0))) (sApp 4 (m2 dAdd (m2 dAdd (m2 dSub (mV 6) (mV 5)) (mV 7)) (mIte (mB (m2 dGe (mV 7) (mV 3))) (mC (.int 0)) (mV 0)))))) (sApp 2 (mF (mA dMin (mCons (mV 4) mNil))))))) (sRet (mV 2))))
def d_law_map : List D → M D := dn 2 8 b_law_map
theorem ok_law_map {P : Program} {w : World} {K : PySem.W.Frag} {mg : Str → Option Value} {base : Heap} {cl : Nat → Addr} {hs : Bool} {pd pg pc : Addr} (R : Raw K mg cl) : Ok P w K mg base 1 (ga K "_law_map") [("length" : Str), ("rides" : Str)] (spD (mkG K cl hs pd pg pc) d_law_map) :=
  ok_def (G := (mkG K cl hs pd pg pc)) (N := [("length" : Str), ("rides" : Str), ("found" : Str), ("number" : Str), ("some" : Str), ("begin" : Str), ("end" : Str), ("rest" : Str)]) (ps := [("length" : Str), ("rides" : Str)]) R.flaw_map ⟨rfl, rfl, rfl, by decide +kernel, rfl, by decide +kernel, by decide +kernel⟩ (fun _ _ _ _ _ _ us hl => match us, hl with | [_, _], _ => rfl) rfl (by decide) fun cdv A outer s F H E c => by
      refine dss_cons ?_ ?_
      · exact (ds_setZ (i := 2) c (dz_lst da_nil))
      refine dss_cons ?_ ?_
      · refine ds_for (vs := [3]) c owns_def (di_rg1 rfl R.brange (de_v 0)) (dg_name c (by decide)) ?_
        refine dss_cons ?_ ?_
        · exact (ds_setZ (i := 4) c (dz_lst da_nil))
        refine dss_cons ?_ ?_
        · refine ds_for (vs := [5, 6]) c owns_def (di_seq c (de_v 1)) (dg_tup c (dgs_cons (dg_name c (by decide)) (dgs_cons (dg_name c (by decide)) dgs_nil))) ?_
          refine dss_cons ?_ ?_
          · exact (ds_set (i := 7) c (de_mod (de_callTy call_int1 cal_int rfl R.bint (da_cons (de_v 5) da_nil)) (de_v 0)))
          refine dss_one ?_
          exact (ds_app (i := 4) (de_add c (de_add c (de_sub (de_v 6) (de_v 5)) (de_v 7)) (de_if (dt_cm op_ge opd_ge (nomark _) (de_v 7) (de_v 3)) de_int (de_v 0))))
        refine dss_one ?_
        exact (ds_app (i := 2) (de_frz (de_callB (callr_min c) cal_min rfl R.bmin (da_cons (de_v 4) da_nil))))
      refine dss_one ?_
      exact (ds_ret (de_v 2))
/-! ### _law_some_rides -/
def b_law_some_rides : SM := (sSeq (sPar 2 3 (zD (mCall d_law_draw (mCons (mV 0) (mCons (mC (.int 6)) mNil)))) (zD (m2 dAdd (mC (.int 1)) (mCall d_law_draw (mCons (mV 0) (mCons (m2 dMul (mC (.int 2)) (mV 1)) mNil)))))) (sSeq (sIf (mB (m2 dEq (mV 2) (mC (.int 0)))) (sSeq (sSet 4 (mCall d_law_draw (mCons (mV 0) (mCons (m2 dAdd (mV 1) (mC (.int 2))) mNil)))) (sRet (eLc [8] (iRg1 (mV 1)) (gN 8) mYes (mA dTup (mCons (mV 8) (mCons (m2 dAdd (mV 8) (mV 4)) mNil)))))) sNext) (sSeq (sSetZ 5 (zLst mNil)) (sSeq (sFor (iRg1 (m2 dAdd (mC (.int 1)) (mCall d_law_draw (mCons (mV 0) (mCons (mA dMin (mCons (mC (.int 6)) (mCons (m2 dAdd (mV 1) (mC (.int 1))) mNil))) mNil))))) (gN 6) (sSeq (sSet 7 (m2 dAdd (mCall d_law_draw (mCons (mV 0) (mCons (mV 1) mNil))) (m2 dMul (mV 1) (m2 dSub (mCall d_law_draw (mCons (mV 0) (mCons (mC (.int 5)) mNil))) (mC (.int 2)))))) (sApp 5 (mA dTup (mCons (mV 7) (mCons (m2 dAdd (mV 7) (mCall d_law_draw (mCons (mV 0) (mCons (mV 3) mNil)))) mNil)))))) (sRet (mV 5))))))
def d_law_some_rides : List D → M D := dn 2 9 b_law_some_rides
theorem ok_law_some_rides {P : Program} {w : World} {K : PySem.W.Frag} {mg : Str → Option Value} {base : Heap} {cl : Nat → Addr} {hs : Bool} {pd pg pc : Addr} (R : Raw K mg cl) : Ok P w K mg base 3 (ga K "_law_some_rides") [("state" : Str), ("length" : Str)] (spD (mkG K cl hs pd pg pc) d_law_some_rides) :=
  ok_def (G := (mkG K cl hs pd pg pc)) (N := [("state" : Str), ("length" : Str), ("way" : Str), ("far" : Str), ("shift" : Str), ("found" : Str), ("lap" : Str), ("begin" : Str), ("number" : Str)]) (ps := [("state" : Str), ("length" : Str)]) R.flaw_some_rides ⟨rfl, rfl, rfl, by decide +kernel, rfl, by decide +kernel, by decide +kernel⟩ (fun _ _ _ _ _ _ us hl => match us, hl with | [_, _], _ => rfl) rfl (by decide) fun cdv A outer s F H E c => by
      refine dss_cons ?_ ?_
      · exact (ds_par (i := 2) (j := 3) c (by decide) rfl rfl (dz_de (dc_call c (by decide) (ok_law_draw R) rfl R.glaw_draw R.klaw_draw (da_cons (de_v 0) (da_cons de_int da_nil)))) (dz_de (de_add c de_int (dc_call c (by decide) (ok_law_draw R) rfl R.glaw_draw R.klaw_draw (da_cons (de_v 0) (da_cons (de_mul de_int (de_v 1)) da_nil))))) rfl rfl (by rfl) (by rfl))
      refine dss_cons ?_ ?_
      · refine ds_if ?_ ?_ ?_
        · exact (dt_cm (op_eqc c) opd_eq (nomark _) (de_v 2) de_int)
        · refine dss_cons ?_ ?_
          · exact (ds_set (i := 4) c (dc_call c (by decide) (ok_law_draw R) rfl R.glaw_draw R.klaw_draw (da_cons (de_v 0) (da_cons (de_add c (de_v 1) de_int) da_nil))))
          refine dss_one ?_
          exact (ds_ret (de_lc (own := [(("number" : Str), 8)]) c (di_rg1 rfl R.brange (de_v 1)) (blkOk_by (by rfl)) (fun s3 H3 _ _ p3 => (dg_name (c.blk s3 H3 _ _ p3) (by decide))) (fun s3 H3 _ _ p3 => dts_nil) (fun s3 H3 _ _ p3 => (de_tup (da_cons (de_v 8) (da_cons (de_add (c.blk s3 H3 _ _ p3) (de_v 8) (de_v 4)) da_nil))))))
        · exact dss_nil
      refine dss_cons ?_ ?_
      · exact (ds_setZ (i := 5) c (dz_lst da_nil))
      refine dss_cons ?_ ?_
      · refine ds_for (vs := [6]) c owns_def (di_rg1 rfl R.brange (de_add c de_int (dc_call c (by decide) (ok_law_draw R) rfl R.glaw_draw R.klaw_draw (da_cons (de_v 0) (da_cons (de_callB (callr_min c) cal_min rfl R.bmin (da_cons de_int (da_cons (de_add c (de_v 1) de_int) da_nil))) da_nil))))) (dg_name c (by decide)) ?_
        refine dss_cons ?_ ?_
        · exact (ds_set (i := 7) c (de_add c (dc_call c (by decide) (ok_law_draw R) rfl R.glaw_draw R.klaw_draw (da_cons (de_v 0) (da_cons (de_v 1) da_nil))) (de_mul (de_v 1) (de_sub (dc_call c (by decide) (ok_law_draw R) rfl R.glaw_draw R.klaw_draw (da_cons (de_v 0) (da_cons de_int da_nil))) de_int))))
        refine dss_one ?_
        exact (ds_app (i := 5) (de_tup (da_cons (de_v 7) (da_cons (de_add c (de_v 7) (dc_call c (by decide) (ok_law_draw R) rfl R.glaw_draw R.klaw_draw (da_cons (de_v 0) (da_cons (de_v 3) da_nil)))) da_nil))))
      refine dss_one ?_
      exact (ds_ret (de_v 5))
/-! ### _law_some_ends -/
def b_law_some_ends : SM := (sRet (mCall d_law_map (mCons (mV 1) (mCons (mCall d_law_some_rides (mCons (mV 0) (mCons (mV 1) mNil))) mNil))))
def d_law_some_ends : List D → M D := dn 2 2 b_law_some_ends
theorem ok_law_some_ends {P : Program} {w : World} {K : PySem.W.Frag} {mg : Str → Option Value} {base : Heap} {cl : Nat → Addr} {hs : Bool} {pd pg pc : Addr} (R : Raw K mg cl) : Ok P w K mg base 4 (ga K "_law_some_ends") [("state" : Str), ("length" : Str)] (spD (mkG K cl hs pd pg pc) d_law_some_ends) :=
  ok_def (G := (mkG K cl hs pd pg pc)) (N := [("state" : Str), ("length" : Str)]) (ps := [("state" : Str), ("length" : Str)]) R.flaw_some_ends ⟨rfl, rfl, rfl, by decide +kernel, rfl, by decide +kernel, by decide +kernel⟩ (fun _ _ _ _ _ _ us hl => match us, hl with | [_, _], _ => rfl) rfl (by decide) fun cdv A outer s F H E c => by
      refine dss_one ?_
      exact (ds_ret (dc_call c (by decide) (ok_law_map R) rfl R.glaw_map R.klaw_map (da_cons (de_v 1) (da_cons (dc_call c (by decide) (ok_law_some_rides R) rfl R.glaw_some_rides R.klaw_some_rides (da_cons (de_v 0) (da_cons (de_v 1) da_nil))) da_nil))))
/-! ### _law_some_look -/
def b_law_some_look : SM := (sSeq (sSet 3 (m2 dSub (mCall d_law_draw (mCons (mV 0) (mCons (m2 dMul (mC (.int 3)) (mV 2)) mNil))) (mV 2))) (sSeq (sPar 4 5 (zD (mCall d_law_go (mCons (mV 1) (mCons (mV 3) mNil)))) (zD (mCall d_law_pick (mCons (mV 0) (mCons (mA dLst (mCons (mC (.str "is")) (mCons (mC (.str "by")) (mCons (mC (.str "after")) mNil)))) mNil))))) (sSeq (sSet 6 (mCall d_law_pick (mCons (mV 0) (mCons (mA dLst (mCons (mC (.int 0)) (mCons (mC (.int 1)) (mCons (mC (.int 2)) (mCons (mV 2) mNil))))) mNil)))) (sRet (mA dTup (mCons (mV 3) (mCons (mV 5) (mCons (mIte (mB (m2 dEq (mV 5) (mC (.str "by")))) (m2 dAdd (mV 4) (mV 6)) (mIte (mB (m2 dEq (mV 5) (mC (.str "after")))) (m2 dSub (m2 dSub (mV 4) (mC (.int 1))) (mV 6)) (mV 4))) mNil))))))))
def d_law_some_look : List D → M D := dn 3 7 b_law_some_look
theorem ok_law_some_look {P : Program} {w : World} {K : PySem.W.Frag} {mg : Str → Option Value} {base : Heap} {cl : Nat → Addr} {hs : Bool} {pd pg pc : Addr} (R : Raw K mg cl) : Ok P w K mg base 4 (ga K "_law_some_look") [("state" : Str), ("ends" : Str), ("length" : Str)] (spD (mkG K cl hs pd pg pc) d_law_some_look) :=
  ok_def (G := (mkG K cl hs pd pg pc)) (N := [("state" : Str), ("ends" : Str), ("length" : Str), ("number" : Str), ("end" : Str), ("word" : Str), ("more" : Str)]) (ps := [("state" : Str), ("ends" : Str), ("length" : Str)]) R.flaw_some_look ⟨rfl, rfl, rfl, by decide +kernel, rfl, by decide +kernel, by decide +kernel⟩ (fun _ _ _ _ _ _ us hl => match us, hl with | [_, _, _], _ => rfl) rfl (by decide) fun cdv A outer s F H E c => by
      refine dss_cons ?_ ?_
      · exact (ds_set (i := 3) c (de_sub (dc_call c (by decide) (ok_law_draw R) rfl R.glaw_draw R.klaw_draw (da_cons (de_v 0) (da_cons (de_mul de_int (de_v 2)) da_nil))) (de_v 2)))
      refine dss_cons ?_ ?_
      · exact (ds_par (i := 4) (j := 5) c (by decide) rfl rfl (dz_de (dc_call c (by decide) (ok_law_go R) rfl R.glaw_go R.klaw_go (da_cons (de_v 1) (da_cons (de_v 3) da_nil)))) (dz_de (dc_call c (by decide) (ok_law_pick R) rfl R.glaw_pick R.klaw_pick (da_cons (de_v 0) (da_cons (de_lst (da_cons de_str (da_cons de_str (da_cons de_str da_nil)))) da_nil)))) rfl rfl (by rfl) (by rfl))
      refine dss_cons ?_ ?_
      · exact (ds_set (i := 6) c (dc_call c (by decide) (ok_law_pick R) rfl R.glaw_pick R.klaw_pick (da_cons (de_v 0) (da_cons (de_lst (da_cons de_int (da_cons de_int (da_cons de_int (da_cons (de_v 2) da_nil))))) da_nil))))
      refine dss_one ?_
      exact (ds_ret (de_tup (da_cons (de_v 3) (da_cons (de_v 5) (da_cons (de_if (dt_cm (op_eqc c) opd_eq (nomark _) (de_v 5) de_str) (de_add c (de_v 4) (de_v 6)) (de_if (dt_cm (op_eqc c) opd_eq (nomark _) (de_v 5) de_str) (de_sub (de_sub (de_v 4) de_int) (de_v 6)) (de_v 4))) da_nil)))))
/-! ### _law_some_seen -/
def b_law_some_seen : SM := (sSeq (sSet 3 (mCall d_law_some_ends (mCons (mV 0) (mCons (mV 1) mNil)))) (sRet (mA dTup (mCons (eLc [4] (iRg1 (mCall d_law_draw (mCons (mV 0) (mCons (m2 dAdd (mV 2) (mC (.int 1))) mNil)))) (gN 4) mYes (mCall d_law_some_look (mCons (mV 0) (mCons (mV 3) (mCons (mV 1) mNil))))) (mCons (mV 3) mNil)))))
def d_law_some_seen : List D → M D := dn 3 5 b_law_some_seen
theorem ok_law_some_seen {P : Program} {w : World} {K : PySem.W.Frag} {mg : Str → Option Value} {base : Heap} {cl : Nat → Addr} {hs : Bool} {pd pg pc : Addr} (R : Raw K mg cl) : Ok P w K mg base 5 (ga K "_law_some_seen") [("state" : Str), ("length" : Str), ("most" : Str)] (spD (mkG K cl hs pd pg pc) d_law_some_seen) :=
  ok_def (G := (mkG K cl hs pd pg pc)) (N := [("state" : Str), ("length" : Str), ("most" : Str), ("ends" : Str), ("lap" : Str)]) (ps := [("state" : Str), ("length" : Str), ("most" : Str)]) R.flaw_some_seen ⟨rfl, rfl, rfl, by decide +kernel, rfl, by decide +kernel, by decide +kernel⟩ (fun _ _ _ _ _ _ us hl => match us, hl with | [_, _, _], _ => rfl) rfl (by decide) fun cdv A outer s F H E c => by
      refine dss_cons ?_ ?_
      · exact (ds_set (i := 3) c (dc_call c (by decide) (ok_law_some_ends R) rfl R.glaw_some_ends R.klaw_some_ends (da_cons (de_v 0) (da_cons (de_v 1) da_nil))))
      refine dss_one ?_
      exact (ds_ret (de_tup (da_cons (de_lc (own := [(("lap" : Str), 4)]) c (di_rg1 rfl R.brange (dc_call c (by decide) (ok_law_draw R) rfl R.glaw_draw R.klaw_draw (da_cons (de_v 0) (da_cons (de_add c (de_v 2) de_int) da_nil)))) (blkOk_by (by rfl)) (fun s2 H2 _ _ p2 => (dg_name (c.blk s2 H2 _ _ p2) (by decide))) (fun s2 H2 _ _ p2 => dts_nil) (fun s2 H2 _ _ p2 => (dc_call (c.blk s2 H2 _ _ p2) (by decide) (ok_law_some_look R) rfl R.glaw_some_look R.klaw_some_look (da_cons (de_v 0) (da_cons (de_v 3) (da_cons (de_v 1) da_nil)))))) (da_cons (de_v 3) da_nil))))
/-! ### _law_has -/
def b_law_has : SM := (sSeq (sSetG (gT 3 (gC (gN 2) (gC (gN 3) (gC (gN 4) gE)))) (mV 1)) (sSeq (sSet 5 (mCall d_law_go (mCons (mV 0) (mCons (mV 2) mNil)))) (sRet (mIte (mB (m2 dEq (mV 3) (mC (.str "is")))) (m2 dEq (mV 5) (mV 4)) (mIte (mB (m2 dEq (mV 3) (mC (.str "by")))) (m2 dLe (mV 5) (mV 4)) (m2 dGt (mV 5) (mV 4)))))))
def d_law_has : List D → M D := dn 2 6 b_law_has
theorem ok_law_has {P : Program} {w : World} {K : PySem.W.Frag} {mg : Str → Option Value} {base : Heap} {cl : Nat → Addr} {hs : Bool} {pd pg pc : Addr} (R : Raw K mg cl) : Ok P w K mg base 2 (ga K "_law_has") [("ends" : Str), ("look" : Str)] (spD (mkG K cl hs pd pg pc) d_law_has) :=
  ok_def (G := (mkG K cl hs pd pg pc)) (N := [("ends" : Str), ("look" : Str), ("number" : Str), ("word" : Str), ("end" : Str), ("here" : Str)]) (ps := [("ends" : Str), ("look" : Str)]) R.flaw_has ⟨rfl, rfl, rfl, by decide +kernel, rfl, by decide +kernel, by decide +kernel⟩ (fun _ _ _ _ _ _ us hl => match us, hl with | [_, _], _ => rfl) rfl (by decide) fun cdv A outer s F H E c => by
      refine dss_cons ?_ ?_
      · exact (ds_setG (vs := [2, 3, 4]) (de_v 1) (dg_tup c (dgs_cons (dg_name c (by decide)) (dgs_cons (dg_name c (by decide)) (dgs_cons (dg_name c (by decide)) dgs_nil)))))
      refine dss_cons ?_ ?_
      · exact (ds_set (i := 5) c (dc_call c (by decide) (ok_law_go R) rfl R.glaw_go R.klaw_go (da_cons (de_v 0) (da_cons (de_v 2) da_nil))))
      refine dss_one ?_
      exact (ds_ret (de_if (dt_cm (op_eqc c) opd_eq (nomark _) (de_v 3) de_str) (de_cm (op_eqc c) opd_eq (nomark _) (de_v 5) (de_v 4)) (de_if (dt_cm (op_eqc c) opd_eq (nomark _) (de_v 3) de_str) (de_cm op_le opd_le (nomark _) (de_v 5) (de_v 4)) (de_cm op_gt opd_gt (nomark _) (de_v 5) (de_v 4)))))
/-! ### _law_bounds -/
def b_law_bounds : SM := (sSeq (sPar 2 3 (zRgL (mRg1 (mV 1))) (zRep (mA dLst (mCons (mC .non) mNil)) (mV 1))) (sSeq (sFor (iD (mV 0)) (gT 3 (gC (gN 4) (gC (gN 5) (gC (gN 6) gE)))) (sSeq (sSet 7 (m2 dMod (mA dInt (mCons (mV 4) mNil)) (mV 1))) (sSeq (sSet 8 (m2 dSub (mV 6) (m2 dSub (mV 4) (mV 7)))) (sSeq (sIf (mB (m2 dNe (mV 5) (mC (.str "by")))) (sSetIx 2 (mV 7) (mF (mA dMax (mCons (m2 dIx (mV 2) (mV 7)) (mCons (m2 dAdd (mV 8) (mA dInt (mCons (m2 dEq (mV 5) (mC (.str "after"))) mNil))) mNil))))) sNext) (sIf (mB (m2 dNe (mV 5) (mC (.str "after")))) (sSetIx 3 (mV 7) (mF (mIte (mB (m2 dIs (m2 dIx (mV 3) (mV 7)) (mC .non))) (mV 8) (mA dMin (mCons (m2 dIx (mV 3) (mV 7)) (mCons (mV 8) mNil)))))) sNext))))) (sSeq (sFor (iRg1 (mC (.int 2))) (gN 9) (sSeq (sFor (iRg1 (mV 1)) (gN 7) (sSetIx 2 (mV 7) (mF (mA dMax (mCons (m2 dIx (mV 2) (mV 7)) (mCons (m2 dSub (m2 dIx (mV 2) (m2 dSub (mV 7) (mC (.int 1)))) (mIte (mB (m2 dEq (mV 7) (mC (.int 0)))) (mV 1) (mC (.int 0)))) mNil)))))) (sFor (iD (m1 dRev (mRgL (mRg1 (mV 1))))) (gN 7) (sSeq (sSet 10 (mF (m2 dIx (mV 3) (m2 dSub (m2 dAdd (mV 7) (mC (.int 1))) (mIte (mB (m2 dEq (m2 dAdd (mV 7) (mC (.int 1))) (mV 1))) (mV 1) (mC (.int 0))))))) (sIf (mB (m2 dIsNot (mV 10) (mC .non))) (sSeq (sSet 10 (m2 dAdd (mV 10) (mIte (mB (m2 dEq (m2 dAdd (mV 7) (mC (.int 1))) (mV 1))) (mV 1) (mC (.int 0))))) (sSetIx 3 (mV 7) (mF (mIte (mB (m2 dIs (m2 dIx (mV 3) (mV 7)) (mC .non))) (mV 10) (mA dMin (mCons (m2 dIx (mV 3) (mV 7)) (mCons (mV 10) mNil))))))) sNext))))) (sRet (mA dTup (mCons (mV 2) (mCons (mIte (mB (m2 dIn (mC .non) (mV 3))) (mC .non) (mV 3)) mNil)))))))
def d_law_bounds : List D → M D := dn 2 11 b_law_bounds
theorem ok_law_bounds {P : Program} {w : World} {K : PySem.W.Frag} {mg : Str → Option Value} {base : Heap} {cl : Nat → Addr} {hs : Bool} {pd pg pc : Addr} (R : Raw K mg cl) : Ok P w K mg base 1 (ga K "_law_bounds") [("looks" : Str), ("length" : Str)] (spD (mkG K cl hs pd pg pc) d_law_bounds) :=
  ok_def (G := (mkG K cl hs pd pg pc)) (N := [("looks" : Str), ("length" : Str), ("low" : Str), ("high" : Str), ("number" : Str), ("word" : Str), ("end" : Str), ("rest" : Str), ("here" : Str), ("lap" : Str), ("later" : Str)]) (ps := [("looks" : Str), ("length" : Str)]) R.flaw_bounds ⟨rfl, rfl, rfl, by decide +kernel, rfl, by decide +kernel, by decide +kernel⟩ (fun _ _ _ _ _ _ us hl => match us, hl with | [_, _], _ => rfl) rfl (by decide) fun cdv A outer s F H E c => by
      refine dss_cons ?_ ?_
      · exact (ds_par (i := 2) (j := 3) c (by decide) rfl rfl (dz_listRg c rfl R.blist (rg1_of rfl R.brange (de_v 1))) (dz_rep (de_lst (da_cons de_non da_nil)) (de_v 1)) rfl rfl (by rfl) (by rfl))
      refine dss_cons ?_ ?_
      · refine ds_for (vs := [4, 5, 6]) c owns_def (di_seq c (de_v 0)) (dg_tup c (dgs_cons (dg_name c (by decide)) (dgs_cons (dg_name c (by decide)) (dgs_cons (dg_name c (by decide)) dgs_nil)))) ?_
        refine dss_cons ?_ ?_
        · exact (ds_set (i := 7) c (de_mod (de_callTy call_int1 cal_int rfl R.bint (da_cons (de_v 4) da_nil)) (de_v 1)))
        refine dss_cons ?_ ?_
        · exact (ds_set (i := 8) c (de_sub (de_v 6) (de_sub (de_v 4) (de_v 7))))
        refine dss_cons ?_ ?_
        · refine ds_if ?_ ?_ ?_
          · exact (dt_cm (op_nec c) opd_ne (nomark _) (de_v 5) de_str)
          · refine dss_one ?_
            exact (ds_setIx (i := 2) (de_v 7) (de_frz (de_callB (callr_max c) cal_max rfl R.bmax (da_cons (de_ix c (de_v 2) (de_v 7)) (da_cons (de_add c (de_v 8) (de_callTy call_int1 cal_int rfl R.bint (da_cons (de_cm (op_eqc c) opd_eq (nomark _) (de_v 5) de_str) da_nil))) da_nil)))))
          · exact dss_nil
        refine dss_one ?_
        refine ds_if ?_ ?_ ?_
        · exact (dt_cm (op_nec c) opd_ne (nomark _) (de_v 5) de_str)
        · refine dss_one ?_
          exact (ds_setIx (i := 3) (de_v 7) (de_frz (de_if (dt_cm op_isAll opd_is (nomark _) (de_ix c (de_v 3) (de_v 7)) de_non) (de_v 8) (de_callB (callr_min c) cal_min rfl R.bmin (da_cons (de_ix c (de_v 3) (de_v 7)) (da_cons (de_v 8) da_nil))))))
        · exact dss_nil
      refine dss_cons ?_ ?_
      · refine ds_for (vs := [9]) c owns_def (di_rg1 rfl R.brange de_int) (dg_name c (by decide)) ?_
        refine dss_cons ?_ ?_
        · refine ds_for (vs := [7]) c owns_def (di_rg1 rfl R.brange (de_v 1)) (dg_name c (by decide)) ?_
          refine dss_one ?_
          exact (ds_setIx (i := 2) (de_v 7) (de_frz (de_callB (callr_max c) cal_max rfl R.bmax (da_cons (de_ix c (de_v 2) (de_v 7)) (da_cons (de_sub (de_ix c (de_v 2) (de_sub (de_v 7) de_int)) (de_if (dt_cm (op_eqc c) opd_eq (nomark _) (de_v 7) de_int) (de_v 1) de_int)) da_nil)))))
        refine dss_one ?_
        refine ds_for (vs := [7]) c owns_def (di_seq c (de_rev c (de_listRg c rfl R.blist (rg1_of rfl R.brange (de_v 1))))) (dg_name c (by decide)) ?_
        refine dss_cons ?_ ?_
        · exact (ds_set (i := 10) c (de_frz (de_ix c (de_v 3) (de_sub (de_add c (de_v 7) de_int) (de_if (dt_cm (op_eqc c) opd_eq (nomark _) (de_add c (de_v 7) de_int) (de_v 1)) (de_v 1) de_int)))))
        refine dss_one ?_
        refine ds_if ?_ ?_ ?_
        · exact (dt_cm op_isNotAll opd_isNot (nomark _) (de_v 10) de_non)
        · refine dss_cons ?_ ?_
          · exact (ds_set (i := 10) c (de_add c (de_v 10) (de_if (dt_cm (op_eqc c) opd_eq (nomark _) (de_add c (de_v 7) de_int) (de_v 1)) (de_v 1) de_int)))
          refine dss_one ?_
          exact (ds_setIx (i := 3) (de_v 7) (de_frz (de_if (dt_cm op_isAll opd_is (nomark _) (de_ix c (de_v 3) (de_v 7)) de_non) (de_v 10) (de_callB (callr_min c) cal_min rfl R.bmin (da_cons (de_ix c (de_v 3) (de_v 7)) (da_cons (de_v 10) da_nil))))))
        · exact dss_nil
      refine dss_one ?_
      exact (ds_ret (de_tup (da_cons (de_v 2) (da_cons (de_if (dt_cm (op_inc c) opd_in (by with_unfolding_all rfl) de_non (de_v 3)) de_non (de_v 3)) da_nil))))
/-! ### _law_between -/
def b_law_between : SM := (sSeq (sPar 3 4 (zLst mNil) (zD (m2 dIx (mV 1) (mC (.int 0))))) (sSeq (sFor (iZpD (mV 1) (mV 2)) (gT 2 (gC (gN 5) (gC (gN 6) gE))) (sSeq (sSet 4 (mA dMax (mCons (mV 4) (mCons (m2 dAdd (mV 5) (mCall d_law_draw (mCons (mV 0) (mCons (m2 dAdd (m2 dSub (mV 6) (mV 5)) (mC (.int 1))) mNil)))) mNil)))) (sApp 3 (mV 4)))) (sSeq (sSet 7 (mF (m2 dAdd (m2 dIx (mV 3) (mC (.int 0))) (mA dLen (mCons (mV 1) mNil))))) (sRet (eLc [8] (iD (mV 3)) (gN 8) mYes (mA dMin (mCons (mV 8) (mCons (mV 7) mNil))))))))
def d_law_between : List D → M D := dn 3 9 b_law_between
theorem ok_law_between {P : Program} {w : World} {K : PySem.W.Frag} {mg : Str → Option Value} {base : Heap} {cl : Nat → Addr} {hs : Bool} {pd pg pc : Addr} (R : Raw K mg cl) : Ok P w K mg base 3 (ga K "_law_between") [("state" : Str), ("low" : Str), ("high" : Str)] (spD (mkG K cl hs pd pg pc) d_law_between) :=
  ok_def (G := (mkG K cl hs pd pg pc)) (N := [("state" : Str), ("low" : Str), ("high" : Str), ("found" : Str), ("most" : Str), ("one" : Str), ("other" : Str), ("top" : Str), ("end" : Str)]) (ps := [("state" : Str), ("low" : Str), ("high" : Str)]) R.flaw_between ⟨rfl, rfl, rfl, by decide +kernel, rfl, by decide +kernel, by decide +kernel⟩ (fun _ _ _ _ _ _ us hl => match us, hl with | [_, _, _], _ => rfl) rfl (by decide) fun cdv A outer s F H E c => by
      refine dss_cons ?_ ?_
      · exact (ds_par (i := 3) (j := 4) c (by decide) rfl rfl (dz_lst da_nil) (dz_de (de_ix c (de_v 1) de_int)) rfl rfl (by rfl) (by rfl))
      refine dss_cons ?_ ?_
      · refine ds_for (vs := [5, 6]) c owns_def (di_zip c rfl R.bzip (de_v 1) (de_v 2)) (dg_tup c (dgs_cons (dg_name c (by decide)) (dgs_cons (dg_name c (by decide)) dgs_nil))) ?_
        refine dss_cons ?_ ?_
        · exact (ds_set (i := 4) c (de_callB (callr_max c) cal_max rfl R.bmax (da_cons (de_v 4) (da_cons (de_add c (de_v 5) (dc_call c (by decide) (ok_law_draw R) rfl R.glaw_draw R.klaw_draw (da_cons (de_v 0) (da_cons (de_add c (de_sub (de_v 6) (de_v 5)) de_int) da_nil)))) da_nil))))
        refine dss_one ?_
        exact (ds_app (i := 3) (de_v 4))
      refine dss_cons ?_ ?_
      · exact (ds_set (i := 7) c (de_frz (de_add c (de_ix c (de_v 3) de_int) (de_callB (callr_len c) cal_len rfl R.blen (da_cons (de_v 1) da_nil)))))
      refine dss_one ?_
      exact (ds_ret (de_lc (own := [(("end" : Str), 8)]) c (di_seq c (de_v 3)) (blkOk_by (by rfl)) (fun s4 H4 _ _ p4 => (dg_name (c.blk s4 H4 _ _ p4) (by decide))) (fun s4 H4 _ _ p4 => dts_nil) (fun s4 H4 _ _ p4 => (de_callB (callr_min (c.blk s4 H4 _ _ p4)) cal_min rfl R.bmin (da_cons (de_v 8) (da_cons (de_v 7) da_nil))))))
/-! ### is_number -/
def b_is_number : SM := (sRet (mAndV (mIsi 2 (.bi "int") (mV 0)) (mNotV (mIsi 2 (.bi "bool") (mV 0)))))
def d_is_number : List D → M D := dn 1 1 b_is_number
theorem ok_is_number {P : Program} {w : World} {K : PySem.W.Frag} {mg : Str → Option Value} {base : Heap} {cl : Nat → Addr} {hs : Bool} {pd pg pc : Addr} (R : Raw K mg cl) : Ok P w K mg base 1 (ga K "is_number") [("thing" : Str)] (spD (mkG K cl hs pd pg pc) d_is_number) :=
  ok_def (G := (mkG K cl hs pd pg pc)) (N := [("thing" : Str)]) (ps := [("thing" : Str)]) R.fis_number ⟨rfl, rfl, rfl, by decide +kernel, rfl, by decide +kernel, by decide +kernel⟩ (fun _ _ _ _ _ _ us hl => match us, hl with | [_], _ => rfl) rfl (by decide) fun cdv A outer s F H E c => by
      refine dss_one ?_
      exact (ds_ret (de_and (de_isi c (R.KO _ _ _ _) rfl rfl R.bisinstance (de_v 0) (pe_bltn (v := .ty "int") rfl R.bint rfl rfl)) (de_one (de_not (de_isi c (R.KO _ _ _ _) rfl rfl R.bisinstance (de_v 0) (pe_bltn (v := .ty "bool") rfl R.bbool rfl rfl))))))
/-! ### is_length -/
def b_is_length : SM := (sRet (mAndV (mCall d_is_number (mCons (mV 0) mNil)) (mCh dLe dLe (mC (.int 1)) (mV 0) (mC (.int 60)))))
def d_is_length : List D → M D := dn 1 1 b_is_length
theorem ok_is_length {P : Program} {w : World} {K : PySem.W.Frag} {mg : Str → Option Value} {base : Heap} {cl : Nat → Addr} {hs : Bool} {pd pg pc : Addr} (R : Raw K mg cl) : Ok P w K mg base 2 (ga K "is_length") [("thing" : Str)] (spD (mkG K cl hs pd pg pc) d_is_length) :=
  ok_def (G := (mkG K cl hs pd pg pc)) (N := [("thing" : Str)]) (ps := [("thing" : Str)]) R.fis_length ⟨rfl, rfl, rfl, by decide +kernel, rfl, by decide +kernel, by decide +kernel⟩ (fun _ _ _ _ _ _ us hl => match us, hl with | [_], _ => rfl) rfl (by decide) fun cdv A outer s F H E c => by
      refine dss_one ?_
      exact (ds_ret (de_and (dc_call c (by decide) (ok_is_number R) rfl R.gis_number R.kis_number (da_cons (de_v 0) da_nil)) (de_one (de_chain op_le op_le opd_le opd_le de_int (de_v 0) (de_gi rfl R.iMOST_LENGTH)))))
/-! ### need_length -/
def b_need_length : SM := (sIf (mNotT (mB (mCall d_is_length (mCons (mV 0) mNil)))) sBad sNext)
def d_need_length : List D → M D := dn 1 1 b_need_length
theorem ok_need_length {P : Program} {w : World} {K : PySem.W.Frag} {mg : Str → Option Value} {base : Heap} {cl : Nat → Addr} {hs : Bool} {pd pg pc : Addr} (R : Raw K mg cl) : Ok P w K mg base 3 (ga K "need_length") [("length" : Str)] (spD (mkG K cl hs pd pg pc) d_need_length) :=
  ok_def (G := (mkG K cl hs pd pg pc)) (N := [("length" : Str)]) (ps := [("length" : Str)]) R.fneed_length ⟨rfl, rfl, rfl, by decide +kernel, rfl, by decide +kernel, by decide +kernel⟩ (fun _ _ _ _ _ _ us hl => match us, hl with | [_], _ => rfl) rfl (by decide) fun cdv A outer s F H E c => by
      refine dss_one ?_
      refine ds_if ?_ ?_ ?_
      · refine dt_not ?_
        exact (dt_val (dc_call c (by decide) (ok_is_length R) rfl R.gis_length R.kis_length (da_cons (de_v 0) da_nil)))
      · refine dss_one ?_
        exact ds_bad
      · exact dss_nil
/-! ### is_ride -/
def b_is_ride : SM := (sSeq (sIf (mOrT (mNotT (mB (mIsi 2 (.bi "tuple") (mV 0)))) (mOrT (mB (m2 dNe (mA dLen (mCons (mV 0) mNil)) (mC (.int 2)))) (mOrT (mNotT (mB (mCall d_is_number (mCons (m2 dIx (mV 0) (mC (.int 0))) mNil)))) (mNotT (mB (mCall d_is_number (mCons (m2 dIx (mV 0) (mC (.int 1))) mNil))))))) (sRet (mC (.bl false))) sNext) (sRet (m2 dLe (m2 dIx (mV 0) (mC (.int 0))) (m2 dIx (mV 0) (mC (.int 1))))))
def d_is_ride : List D → M D := dn 1 1 b_is_ride
theorem ok_is_ride {P : Program} {w : World} {K : PySem.W.Frag} {mg : Str → Option Value} {base : Heap} {cl : Nat → Addr} {hs : Bool} {pd pg pc : Addr} (R : Raw K mg cl) : Ok P w K mg base 2 (ga K "is_ride") [("thing" : Str)] (spD (mkG K cl hs pd pg pc) d_is_ride) :=
  ok_def (G := (mkG K cl hs pd pg pc)) (N := [("thing" : Str)]) (ps := [("thing" : Str)]) R.fis_ride ⟨rfl, rfl, rfl, by decide +kernel, rfl, by decide +kernel, by decide +kernel⟩ (fun _ _ _ _ _ _ us hl => match us, hl with | [_], _ => rfl) rfl (by decide) fun cdv A outer s F H E c => by
      refine dss_cons ?_ ?_
      · refine ds_if ?_ ?_ ?_
        · refine dt_w (dw_or ?_ (dw_or ?_ (dw_or ?_ (dw_or1 ?_))))
          · refine dt_not ?_
            exact (dt_val (de_isi c (R.KO _ _ _ _) rfl rfl R.bisinstance (de_v 0) (pe_bltn (v := .ty "tuple") rfl R.btuple rfl rfl)))
          · exact (dt_cm (op_nec c) opd_ne (nomark _) (de_callB (callr_len c) cal_len rfl R.blen (da_cons (de_v 0) da_nil)) de_int)
          · refine dt_not ?_
            exact (dt_val (dc_call c (by decide) (ok_is_number R) rfl R.gis_number R.kis_number (da_cons (de_ix c (de_v 0) de_int) da_nil)))
          · refine dt_not ?_
            exact (dt_val (dc_call c (by decide) (ok_is_number R) rfl R.gis_number R.kis_number (da_cons (de_ix c (de_v 0) de_int) da_nil)))
        · refine dss_one ?_
          exact (ds_ret de_bl)
        · exact dss_nil
      refine dss_one ?_
      exact (ds_ret (de_cm op_le opd_le (nomark _) (de_ix c (de_v 0) de_int) (de_ix c (de_v 0) de_int)))
/-! ### ends_of -/
def b_ends_of : SM := (sSeq (sSetZ 2 (zLst mNil)) (sSeq (sFor (iRg1 (mV 0)) (gN 3) (sApp 2 (mA dMin (mCons (eLc [4, 5] (iD (mV 1)) (gT 2 (gC (gN 4) (gC (gN 5) gE))) mYes (m2 dSub (mV 5) (m2 dMul (mV 0) (m2 dDiv (m2 dSub (mV 4) (mV 3)) (mV 0))))) mNil)))) (sRet (mA dTuple (mCons (mV 2) mNil)))))
def d_ends_of : List D → M D := dn 2 6 b_ends_of
theorem ok_ends_of {P : Program} {w : World} {K : PySem.W.Frag} {mg : Str → Option Value} {base : Heap} {cl : Nat → Addr} {hs : Bool} {pd pg pc : Addr} (R : Raw K mg cl) : Ok P w K mg base 1 (ga K "ends_of") [("length" : Str), ("rides" : Str)] (spD (mkG K cl hs pd pg pc) d_ends_of) :=
  ok_def (G := (mkG K cl hs pd pg pc)) (N := [("length" : Str), ("rides" : Str), ("found" : Str), ("number" : Str), ("begin" : Str), ("end" : Str)]) (ps := [("length" : Str), ("rides" : Str)]) R.fends_of ⟨rfl, rfl, rfl, by decide +kernel, rfl, by decide +kernel, by decide +kernel⟩ (fun _ _ _ _ _ _ us hl => match us, hl with | [_, _], _ => rfl) rfl (by decide) fun cdv A outer s F H E c => by
      refine dss_cons ?_ ?_
      · exact (ds_setZ (i := 2) c (dz_lst da_nil))
      refine dss_cons ?_ ?_
      · refine ds_for (vs := [3]) c owns_def (di_rg1 rfl R.brange (de_v 0)) (dg_name c (by decide)) ?_
        refine dss_one ?_
        exact (ds_app (i := 2) (de_callB (callr_min c) cal_min rfl R.bmin (da_cons (de_lc (own := [(("begin" : Str), 4), (("end" : Str), 5)]) c (di_seq c (de_v 1)) (blkOk_by (by rfl)) (fun s5 H5 _ _ p5 => (dg_tup (c.blk s5 H5 _ _ p5) (dgs_cons (dg_name (c.blk s5 H5 _ _ p5) (by decide)) (dgs_cons (dg_name (c.blk s5 H5 _ _ p5) (by decide)) dgs_nil)))) (fun s5 H5 _ _ p5 => dts_nil) (fun s5 H5 _ _ p5 => (de_sub (de_v 5) (de_mul (de_v 0) (de_div (de_sub (de_v 4) (de_v 3)) (de_v 0)))))) da_nil)))
      refine dss_one ?_
      exact (ds_ret (de_callTy (callr_tuple c) cal_tuple rfl R.btuple (da_cons (de_v 2) da_nil)))
/-! ### Daily.__init__ -/
def b_Daily___init : SM := (sSeq (sExpr (mCall d_need_length (mCons (mV 1) mNil))) (sSeq (sIf (mOrT (mNotT (mB (mIsiT 2 (.bi "list") [(.bi "tuple")] (mV 2)))) (mB (m2 dEq (mA dLen (mCons (mV 2) mNil)) (mC (.int 0))))) sBad sNext) (sSeq (sFor (iEnD (mV 2)) (gT 2 (gC (gN 3) (gC (gN 4) gE))) (sIf (mOrT (mB (m2 dEq (mV 3) (mC (.int 60)))) (mNotT (mB (mCall d_is_ride (mCons (mV 4) mNil))))) sBad sNext)) (sIni 0 fl "own_ends" (mCall d_ends_of (mCons (mV 1) (mCons (mV 2) mNil)))))))
def d_Daily___init : List D → M (List D) := dnI 0 2 5 b_Daily___init
theorem ok_Daily___init {P : Program} {w : World} {K : PySem.W.Frag} {mg : Str → Option Value} {base : Heap} {cl : Nat → Addr} {hs : Bool} {pd pg pc : Addr} (R : Raw K mg cl) : Ok P w K mg base 4 (ma K (cl 0) "__init__") [("self" : Str), ("length" : Str), ("rides" : Str)] (spI (mkG K cl hs pd pg pc) 0 d_Daily___init) :=
  ok_init (G := (mkG K cl hs pd pg pc)) (N := [("self" : Str), ("length" : Str), ("rides" : Str), ("at" : Str), ("ride" : Str)]) (ps := [("length" : Str), ("rides" : Str)]) R.fDaily___init ⟨rfl, rfl, rfl, by decide +kernel, rfl, by decide +kernel, by decide +kernel⟩ (fun _ _ _ _ _ _ us hl => match us, hl with | [_, _, _], _ => rfl) rfl (by decide) (fun cdv A outer s F H H1 E slf c => (by
      refine dss_cons ?_ ?_
      · exact (ds_expr (dc_call c (by decide) (ok_need_length R) rfl R.gneed_length R.kneed_length (da_cons (de_v 1) da_nil)))
      refine dss_cons ?_ ?_
      · refine ds_if ?_ ?_ ?_
        · refine dt_w (dw_or ?_ (dw_or1 ?_))
          · refine dt_not ?_
            exact (dt_val (de_isiT c (R.KO _ _ _ _) rfl (by decide) rfl R.bisinstance (de_v 2) (.cons (pe_bltn (v := .ty "list") rfl R.blist rfl rfl) (.cons (pe_bltn (v := .ty "tuple") rfl R.btuple rfl rfl) .nil rfl) rfl)))
          · exact (dt_cm (op_eqc c) opd_eq (nomark _) (de_callB (callr_len c) cal_len rfl R.blen (da_cons (de_v 2) da_nil)) de_int)
        · refine dss_one ?_
          exact ds_bad
        · exact dss_nil
      refine dss_cons ?_ ?_
      · refine ds_for (vs := [3, 4]) c owns_def (di_enum c rfl R.benumerate (de_v 2)) (dg_tup c (dgs_cons (dg_name c (by decide)) (dgs_cons (dg_name c (by decide)) dgs_nil))) ?_
        refine dss_one ?_
        refine ds_if ?_ ?_ ?_
        · refine dt_w (dw_or ?_ (dw_or1 ?_))
          · exact (dt_cm (op_eqc c) opd_eq (nomark _) (de_v 3) (de_gi rfl R.iMOST_RIDES))
          · refine dt_not ?_
            exact (dt_val (dc_call c (by decide) (ok_is_ride R) rfl R.gis_ride R.kis_ride (da_cons (de_v 4) da_nil)))
        · refine dss_one ?_
          exact ds_bad
        · exact dss_nil
      refine dss_one ?_
      exact (ds_ini (ci := 0) c (R.KO _ _ _ _) (show 0 < 2 by decide) (show (fl 0).Nodup by decide +kernel) (show (fl 0).length < 1000 by decide) (dc_call c (by decide) (ok_ends_of R) rfl R.gends_of R.kends_of (da_cons (de_v 1) (da_cons (de_v 2) da_nil)))))) (full_seq (full_seq (full_seq (full_ini (fl := fl) (n := 1) (by decide +kernel) (by decide) (by decide +kernel)))))
/-! ### _law_daily -/
def b_law_daily : SM := (sRet (mMake 0 d_Daily___init (mCons (mA dLen (mCons (mV 0) mNil)) (mCons (m1 dLEn (mV 0)) mNil))))
def d_law_daily : List D → M D := dn 1 1 b_law_daily
theorem ok_law_daily {P : Program} {w : World} {K : PySem.W.Frag} {mg : Str → Option Value} {base : Heap} {cl : Nat → Addr} {hs : Bool} {pd pg pc : Addr} (R : Raw K mg cl) : Ok P w K mg base 6 (ga K "_law_daily") [("ends" : Str)] (spD (mkG K cl hs pd pg pc) d_law_daily) :=
  ok_def (G := (mkG K cl hs pd pg pc)) (N := [("ends" : Str)]) (ps := [("ends" : Str)]) R.flaw_daily ⟨rfl, rfl, rfl, by decide +kernel, rfl, by decide +kernel, by decide +kernel⟩ (fun _ _ _ _ _ _ us hl => match us, hl with | [_], _ => rfl) rfl (by decide) fun cdv A outer s F H E c => by
      refine dss_one ?_
      exact (ds_ret (dc_make c (by decide) R.mkDaily (ok_Daily___init R) rfl R.gDaily (da_cons (de_callB (callr_len c) cal_len rfl R.blen (da_cons (de_v 0) da_nil)) (da_cons (de_listEnum c rfl R.blist rfl R.benumerate (de_v 0)) da_nil))))
/-! ### is_look -/
def b_is_look : SM := (sSeq (sIf (mOrT (mNotT (mB (mIsi 2 (.bi "tuple") (mV 0)))) (mOrT (mB (m2 dNe (mA dLen (mCons (mV 0) mNil)) (mC (.int 3)))) (mOrT (mNotT (mB (mCall d_is_number (mCons (m2 dIx (mV 0) (mC (.int 0))) mNil)))) (mNotT (mB (mCall d_is_number (mCons (m2 dIx (mV 0) (mC (.int 2))) mNil))))))) (sRet (mC (.bl false))) sNext) (sRet (mAndV (mIsi 2 (.bi "str") (m2 dIx (mV 0) (mC (.int 1)))) (m2 dIn (m2 dIx (mV 0) (mC (.int 1))) (mC (.tup tc_WORDS))))))
def d_is_look : List D → M D := dn 1 1 b_is_look
theorem ok_is_look {P : Program} {w : World} {K : PySem.W.Frag} {mg : Str → Option Value} {base : Heap} {cl : Nat → Addr} {hs : Bool} {pd pg pc : Addr} (R : Raw K mg cl) : Ok P w K mg base 2 (ga K "is_look") [("thing" : Str)] (spD (mkG K cl hs pd pg pc) d_is_look) :=
  ok_def (G := (mkG K cl hs pd pg pc)) (N := [("thing" : Str)]) (ps := [("thing" : Str)]) R.fis_look ⟨rfl, rfl, rfl, by decide +kernel, rfl, by decide +kernel, by decide +kernel⟩ (fun _ _ _ _ _ _ us hl => match us, hl with | [_], _ => rfl) rfl (by decide) fun cdv A outer s F H E c => by
      refine dss_cons ?_ ?_
      · refine ds_if ?_ ?_ ?_
        · refine dt_w (dw_or ?_ (dw_or ?_ (dw_or ?_ (dw_or1 ?_))))
          · refine dt_not ?_
            exact (dt_val (de_isi c (R.KO _ _ _ _) rfl rfl R.bisinstance (de_v 0) (pe_bltn (v := .ty "tuple") rfl R.btuple rfl rfl)))
          · exact (dt_cm (op_nec c) opd_ne (nomark _) (de_callB (callr_len c) cal_len rfl R.blen (da_cons (de_v 0) da_nil)) de_int)
          · refine dt_not ?_
            exact (dt_val (dc_call c (by decide) (ok_is_number R) rfl R.gis_number R.kis_number (da_cons (de_ix c (de_v 0) de_int) da_nil)))
          · refine dt_not ?_
            exact (dt_val (dc_call c (by decide) (ok_is_number R) rfl R.gis_number R.kis_number (da_cons (de_ix c (de_v 0) de_int) da_nil)))
        · refine dss_one ?_
          exact (ds_ret de_bl)
        · exact dss_nil
      refine dss_one ?_
      exact (ds_ret (de_and (de_isi c (R.KO _ _ _ _) rfl rfl R.bisinstance (de_ix c (de_v 0) de_int) (pe_bltn (v := .ty "str") rfl R.bstr rfl rfl)) (de_one (de_cm (op_inc c) opd_in (by with_unfolding_all rfl) (de_ix c (de_v 0) de_int) (de_gd rfl R.tWORDS.1 (fun F => ⟨_, _, rfl, R.tWORDS.2 F, rep_WORDS⟩))))))
/-! ### most_by -/
def b_most_by : SM := (sSeq (sSetG (gT 3 (gC (gN 3) (gC (gN 4) (gC (gN 5) gE)))) (mV 0)) (sSeq (sIf (mB (m2 dEq (mV 4) (mC (.str "after")))) (sRet (mC .non)) sNext) (sRet (m2 dSub (mV 5) (m2 dMul (mV 2) (m2 dDiv (m2 dSub (mV 3) (mV 1)) (mV 2)))))))
def d_most_by : List D → M D := dn 3 6 b_most_by
theorem ok_most_by {P : Program} {w : World} {K : PySem.W.Frag} {mg : Str → Option Value} {base : Heap} {cl : Nat → Addr} {hs : Bool} {pd pg pc : Addr} (R : Raw K mg cl) : Ok P w K mg base 1 (ga K "most_by") [("look" : Str), ("number" : Str), ("length" : Str)] (spD (mkG K cl hs pd pg pc) d_most_by) :=
  ok_def (G := (mkG K cl hs pd pg pc)) (N := [("look" : Str), ("number" : Str), ("length" : Str), ("begin" : Str), ("word" : Str), ("end" : Str)]) (ps := [("look" : Str), ("number" : Str), ("length" : Str)]) R.fmost_by ⟨rfl, rfl, rfl, by decide +kernel, rfl, by decide +kernel, by decide +kernel⟩ (fun _ _ _ _ _ _ us hl => match us, hl with | [_, _, _], _ => rfl) rfl (by decide) fun cdv A outer s F H E c => by
      refine dss_cons ?_ ?_
      · exact (ds_setG (vs := [3, 4, 5]) (de_v 0) (dg_tup c (dgs_cons (dg_name c (by decide)) (dgs_cons (dg_name c (by decide)) (dgs_cons (dg_name c (by decide)) dgs_nil)))))
      refine dss_cons ?_ ?_
      · refine ds_if ?_ ?_ ?_
        · exact (dt_cm (op_eqc c) opd_eq (nomark _) (de_v 4) de_str)
        · refine dss_one ?_
          exact (ds_ret de_non)
        · exact dss_nil
      refine dss_one ?_
      exact (ds_ret (de_sub (de_v 5) (de_mul (de_v 2) (de_div (de_sub (de_v 3) (de_v 1)) (de_v 2)))))
/-! ### is_alone_against -/
def b_is_alone_against : SM := (sSeq (sSet 2 (mCall d_most_by (mCons (mV 0) (mCons (m2 dIx (mV 0) (mC (.int 0))) (mCons (mV 1) mNil))))) (sRet (mAndV (m2 dIsNot (mV 2) (mC .non)) (m2 dLt (mV 2) (m2 dIx (mV 0) (mC (.int 0)))))))
def d_is_alone_against : List D → M D := dn 2 3 b_is_alone_against
theorem ok_is_alone_against {P : Program} {w : World} {K : PySem.W.Frag} {mg : Str → Option Value} {base : Heap} {cl : Nat → Addr} {hs : Bool} {pd pg pc : Addr} (R : Raw K mg cl) : Ok P w K mg base 2 (ga K "is_alone_against") [("look" : Str), ("length" : Str)] (spD (mkG K cl hs pd pg pc) d_is_alone_against) :=
  ok_def (G := (mkG K cl hs pd pg pc)) (N := [("look" : Str), ("length" : Str), ("high" : Str)]) (ps := [("look" : Str), ("length" : Str)]) R.fis_alone_against ⟨rfl, rfl, rfl, by decide +kernel, rfl, by decide +kernel, by decide +kernel⟩ (fun _ _ _ _ _ _ us hl => match us, hl with | [_, _], _ => rfl) rfl (by decide) fun cdv A outer s F H E c => by
      refine dss_cons ?_ ?_
      · exact (ds_set (i := 2) c (dc_call c (by decide) (ok_most_by R) rfl R.gmost_by R.kmost_by (da_cons (de_v 0) (da_cons (de_ix c (de_v 0) de_int) (da_cons (de_v 1) da_nil)))))
      refine dss_one ?_
      exact (ds_ret (de_and (de_cm op_isNotAll opd_isNot (nomark _) (de_v 2) de_non) (de_one (de_cm op_lt opd_lt (nomark _) (de_v 2) (de_ix c (de_v 0) de_int)))))
/-! ### least_by -/
def b_least_by : SM := (sSeq (sSetG (gT 3 (gC (gN 3) (gC (gN 4) (gC (gN 5) gE)))) (mV 0)) (sSeq (sIf (mB (m2 dEq (mV 4) (mC (.str "by")))) (sRet (mC .non)) sNext) (sRet (m2 dAdd (m2 dAdd (mV 5) (mA dInt (mCons (m2 dEq (mV 4) (mC (.str "after"))) mNil))) (m2 dMul (mV 2) (m2 dDiv (m2 dSub (mV 1) (mV 3)) (mV 2)))))))
def d_least_by : List D → M D := dn 3 6 b_least_by
theorem ok_least_by {P : Program} {w : World} {K : PySem.W.Frag} {mg : Str → Option Value} {base : Heap} {cl : Nat → Addr} {hs : Bool} {pd pg pc : Addr} (R : Raw K mg cl) : Ok P w K mg base 1 (ga K "least_by") [("look" : Str), ("number" : Str), ("length" : Str)] (spD (mkG K cl hs pd pg pc) d_least_by) :=
  ok_def (G := (mkG K cl hs pd pg pc)) (N := [("look" : Str), ("number" : Str), ("length" : Str), ("begin" : Str), ("word" : Str), ("end" : Str)]) (ps := [("look" : Str), ("number" : Str), ("length" : Str)]) R.fleast_by ⟨rfl, rfl, rfl, by decide +kernel, rfl, by decide +kernel, by decide +kernel⟩ (fun _ _ _ _ _ _ us hl => match us, hl with | [_, _, _], _ => rfl) rfl (by decide) fun cdv A outer s F H E c => by
      refine dss_cons ?_ ?_
      · exact (ds_setG (vs := [3, 4, 5]) (de_v 0) (dg_tup c (dgs_cons (dg_name c (by decide)) (dgs_cons (dg_name c (by decide)) (dgs_cons (dg_name c (by decide)) dgs_nil)))))
      refine dss_cons ?_ ?_
      · refine ds_if ?_ ?_ ?_
        · exact (dt_cm (op_eqc c) opd_eq (nomark _) (de_v 4) de_str)
        · refine dss_one ?_
          exact (ds_ret de_non)
        · exact dss_nil
      refine dss_one ?_
      exact (ds_ret (de_add c (de_add c (de_v 5) (de_callTy call_int1 cal_int rfl R.bint (da_cons (de_cm (op_eqc c) opd_eq (nomark _) (de_v 4) de_str) da_nil))) (de_mul (de_v 2) (de_div (de_sub (de_v 1) (de_v 3)) (de_v 2)))))
/-! ### are_against -/
def b_are_against : SM := (sSeq (sFor (iD (mA dLst (mCons (mA dTup (mCons (mV 0) (mCons (mV 1) mNil))) (mCons (mA dTup (mCons (mV 1) (mCons (mV 0) mNil))) mNil)))) (gT 2 (gC (gN 3) (gC (gN 4) gE))) (sSeq (sSet 5 (mCall d_most_by (mCons (mV 3) (mCons (m2 dIx (mV 4) (mC (.int 0))) (mCons (mV 2) mNil))))) (sSeq (sSet 6 (mCall d_least_by (mCons (mV 4) (mCons (m2 dIx (mV 4) (mC (.int 0))) (mCons (mV 2) mNil))))) (sIf (mAndT (mB (m2 dIsNot (mV 5) (mC .non))) (mAndT (mB (m2 dIsNot (mV 6) (mC .non))) (mB (m2 dLt (mV 5) (mV 6))))) (sRet (mC (.bl true))) sNext)))) (sRet (mC (.bl false))))
def d_are_against : List D → M D := dn 3 7 b_are_against
theorem ok_are_against {P : Program} {w : World} {K : PySem.W.Frag} {mg : Str → Option Value} {base : Heap} {cl : Nat → Addr} {hs : Bool} {pd pg pc : Addr} (R : Raw K mg cl) : Ok P w K mg base 2 (ga K "are_against") [("one" : Str), ("other" : Str), ("length" : Str)] (spD (mkG K cl hs pd pg pc) d_are_against) :=
  ok_def (G := (mkG K cl hs pd pg pc)) (N := [("one" : Str), ("other" : Str), ("length" : Str), ("upper" : Str), ("lower" : Str), ("high" : Str), ("low" : Str)]) (ps := [("one" : Str), ("other" : Str), ("length" : Str)]) R.fare_against ⟨rfl, rfl, rfl, by decide +kernel, rfl, by decide +kernel, by decide +kernel⟩ (fun _ _ _ _ _ _ us hl => match us, hl with | [_, _, _], _ => rfl) rfl (by decide) fun cdv A outer s F H E c => by
      refine dss_cons ?_ ?_
      · refine ds_for (vs := [3, 4]) c owns_def (di_seq c (de_lst (da_cons (de_tup (da_cons (de_v 0) (da_cons (de_v 1) da_nil))) (da_cons (de_tup (da_cons (de_v 1) (da_cons (de_v 0) da_nil))) da_nil)))) (dg_tup c (dgs_cons (dg_name c (by decide)) (dgs_cons (dg_name c (by decide)) dgs_nil))) ?_
        refine dss_cons ?_ ?_
        · exact (ds_set (i := 5) c (dc_call c (by decide) (ok_most_by R) rfl R.gmost_by R.kmost_by (da_cons (de_v 3) (da_cons (de_ix c (de_v 4) de_int) (da_cons (de_v 2) da_nil)))))
        refine dss_cons ?_ ?_
        · exact (ds_set (i := 6) c (dc_call c (by decide) (ok_least_by R) rfl R.gleast_by R.kleast_by (da_cons (de_v 4) (da_cons (de_ix c (de_v 4) de_int) (da_cons (de_v 2) da_nil)))))
        refine dss_one ?_
        refine ds_if ?_ ?_ ?_
        · refine dt_w (dw_and ?_ (dw_and ?_ (dw_and1 ?_)))
          · exact (dt_cm op_isNotAll opd_isNot (nomark _) (de_v 5) de_non)
          · exact (dt_cm op_isNotAll opd_isNot (nomark _) (de_v 6) de_non)
          · exact (dt_cm op_lt opd_lt (nomark _) (de_v 5) (de_v 6))
        · refine dss_one ?_
          exact (ds_ret de_bl)
        · exact dss_nil
      refine dss_one ?_
      exact (ds_ret de_bl)
/-! ### SeenDaily.__init__ -/
def b_SeenDaily___init : SM := (sSeq (sExpr (mCall d_need_length (mCons (mV 1) mNil))) (sSeq (sIf (mNotT (mB (mIsiT 2 (.bi "list") [(.bi "tuple")] (mV 2)))) sBad sNext) (sSeq (sFor (iEnD (mV 2)) (gT 2 (gC (gN 3) (gC (gN 4) gE))) (sIf (mOrT (mB (m2 dEq (mV 3) (mC (.int 30)))) (mNotT (mB (mCall d_is_look (mCons (mV 4) mNil))))) sBad sNext)) (sSeq (sFor (iEnD (mV 2)) (gT 2 (gC (gN 5) (gC (gN 4) gE))) (sSeq (sIf (mB (mCall d_is_alone_against (mCons (mV 4) (mCons (mV 1) mNil)))) sBad sNext) (sFor (iRg2 (m2 dAdd (mV 5) (mC (.int 1))) (mA dLen (mCons (mV 2) mNil))) (gN 6) (sIf (mAndT (mNotT (mB (mCall d_is_alone_against (mCons (m2 dIx (mV 2) (mV 6)) (mCons (mV 1) mNil))))) (mB (mCall d_are_against (mCons (mV 4) (mCons (m2 dIx (mV 2) (mV 6)) (mCons (mV 1) mNil)))))) sBad sNext)))) (sSeq (sIni 1 fl "own_length" (mV 1)) (sIni 1 fl "own_looks" (mA dTuple (mCons (mV 2) mNil))))))))
def d_SeenDaily___init : List D → M (List D) := dnI 1 2 7 b_SeenDaily___init
theorem ok_SeenDaily___init {P : Program} {w : World} {K : PySem.W.Frag} {mg : Str → Option Value} {base : Heap} {cl : Nat → Addr} {hs : Bool} {pd pg pc : Addr} (R : Raw K mg cl) : Ok P w K mg base 4 (ma K (cl 1) "__init__") [("self" : Str), ("length" : Str), ("looks" : Str)] (spI (mkG K cl hs pd pg pc) 1 d_SeenDaily___init) :=
  ok_init (G := (mkG K cl hs pd pg pc)) (N := [("self" : Str), ("length" : Str), ("looks" : Str), ("at" : Str), ("look" : Str), ("first" : Str), ("second" : Str)]) (ps := [("length" : Str), ("looks" : Str)]) R.fSeenDaily___init ⟨rfl, rfl, rfl, by decide +kernel, rfl, by decide +kernel, by decide +kernel⟩ (fun _ _ _ _ _ _ us hl => match us, hl with | [_, _, _], _ => rfl) rfl (by decide) (fun cdv A outer s F H H1 E slf c => (by
      refine dss_cons ?_ ?_
      · exact (ds_expr (dc_call c (by decide) (ok_need_length R) rfl R.gneed_length R.kneed_length (da_cons (de_v 1) da_nil)))
      refine dss_cons ?_ ?_
      · refine ds_if ?_ ?_ ?_
        · refine dt_not ?_
          exact (dt_val (de_isiT c (R.KO _ _ _ _) rfl (by decide) rfl R.bisinstance (de_v 2) (.cons (pe_bltn (v := .ty "list") rfl R.blist rfl rfl) (.cons (pe_bltn (v := .ty "tuple") rfl R.btuple rfl rfl) .nil rfl) rfl)))
        · refine dss_one ?_
          exact ds_bad
        · exact dss_nil
      refine dss_cons ?_ ?_
      · refine ds_for (vs := [3, 4]) c owns_def (di_enum c rfl R.benumerate (de_v 2)) (dg_tup c (dgs_cons (dg_name c (by decide)) (dgs_cons (dg_name c (by decide)) dgs_nil))) ?_
        refine dss_one ?_
        refine ds_if ?_ ?_ ?_
        · refine dt_w (dw_or ?_ (dw_or1 ?_))
          · exact (dt_cm (op_eqc c) opd_eq (nomark _) (de_v 3) (de_gi rfl R.iMOST_LOOKS))
          · refine dt_not ?_
            exact (dt_val (dc_call c (by decide) (ok_is_look R) rfl R.gis_look R.kis_look (da_cons (de_v 4) da_nil)))
        · refine dss_one ?_
          exact ds_bad
        · exact dss_nil
      refine dss_cons ?_ ?_
      · refine ds_for (vs := [5, 4]) c owns_def (di_enum c rfl R.benumerate (de_v 2)) (dg_tup c (dgs_cons (dg_name c (by decide)) (dgs_cons (dg_name c (by decide)) dgs_nil))) ?_
        refine dss_cons ?_ ?_
        · refine ds_if ?_ ?_ ?_
          · exact (dt_val (dc_call c (by decide) (ok_is_alone_against R) rfl R.gis_alone_against R.kis_alone_against (da_cons (de_v 4) (da_cons (de_v 1) da_nil))))
          · refine dss_one ?_
            exact ds_bad
          · exact dss_nil
        refine dss_one ?_
        refine ds_for (vs := [6]) c owns_def (di_rg2 rfl R.brange (de_add c (de_v 5) de_int) (de_callB (callr_len c) cal_len rfl R.blen (da_cons (de_v 2) da_nil))) (dg_name c (by decide)) ?_
        refine dss_one ?_
        refine ds_if ?_ ?_ ?_
        · refine dt_w (dw_and ?_ (dw_and1 ?_))
          · refine dt_not ?_
            exact (dt_val (dc_call c (by decide) (ok_is_alone_against R) rfl R.gis_alone_against R.kis_alone_against (da_cons (de_ix c (de_v 2) (de_v 6)) (da_cons (de_v 1) da_nil))))
          · exact (dt_val (dc_call c (by decide) (ok_are_against R) rfl R.gare_against R.kare_against (da_cons (de_v 4) (da_cons (de_ix c (de_v 2) (de_v 6)) (da_cons (de_v 1) da_nil)))))
        · refine dss_one ?_
          exact ds_bad
        · exact dss_nil
      refine dss_cons ?_ ?_
      · exact (ds_ini (ci := 1) c (R.KO _ _ _ _) (show 1 < 2 by decide) (show (fl 1).Nodup by decide +kernel) (show (fl 1).length < 1000 by decide) (de_v 1))
      refine dss_one ?_
      exact (ds_ini (ci := 1) c (R.KO _ _ _ _) (show 1 < 2 by decide) (show (fl 1).Nodup by decide +kernel) (show (fl 1).length < 1000 by decide) (de_callTy (callr_tuple c) cal_tuple rfl R.btuple (da_cons (de_v 2) da_nil))))) (full_seq (full_seq (full_seq (full_seq (full_seq (full_ini (fl := fl) (n := 2) (by decide +kernel) (by decide) (by decide +kernel)))))))
/-! ### daily_by -/
def b_daily_by : SM := (sRet (mMake 0 d_Daily___init (mCons (mA dLen (mCons (mV 0) mNil)) (mCons (eLc [1, 2] (iEnD (mV 0)) (gT 2 (gC (gN 1) (gC (gN 2) gE))) mYes (mA dTup (mCons (mV 1) (mCons (mV 2) mNil)))) mNil))))
def d_daily_by : List D → M D := dn 1 3 b_daily_by
theorem ok_daily_by {P : Program} {w : World} {K : PySem.W.Frag} {mg : Str → Option Value} {base : Heap} {cl : Nat → Addr} {hs : Bool} {pd pg pc : Addr} (R : Raw K mg cl) : Ok P w K mg base 6 (ga K "daily_by") [("ends" : Str)] (spD (mkG K cl hs pd pg pc) d_daily_by) :=
  ok_def (G := (mkG K cl hs pd pg pc)) (N := [("ends" : Str), ("number" : Str), ("end" : Str)]) (ps := [("ends" : Str)]) R.fdaily_by ⟨rfl, rfl, rfl, by decide +kernel, rfl, by decide +kernel, by decide +kernel⟩ (fun _ _ _ _ _ _ us hl => match us, hl with | [_], _ => rfl) rfl (by decide) fun cdv A outer s F H E c => by
      refine dss_one ?_
      exact (ds_ret (dc_make c (by decide) R.mkDaily (ok_Daily___init R) rfl R.gDaily (da_cons (de_callB (callr_len c) cal_len rfl R.blen (da_cons (de_v 0) da_nil)) (da_cons (de_lc (own := [(("number" : Str), 1), (("end" : Str), 2)]) c (di_enum c rfl R.benumerate (de_v 0)) (blkOk_by (by rfl)) (fun s6 H6 _ _ p6 => (dg_tup (c.blk s6 H6 _ _ p6) (dgs_cons (dg_name (c.blk s6 H6 _ _ p6) (by decide)) (dgs_cons (dg_name (c.blk s6 H6 _ _ p6) (by decide)) dgs_nil)))) (fun s6 H6 _ _ p6 => dts_nil) (fun s6 H6 _ _ p6 => (de_tup (da_cons (de_v 1) (da_cons (de_v 2) da_nil))))) da_nil))))
/-! ### least_end -/
def b_least_end : SM := (sSeq (sSet 3 (eLc [4] (iD (mV 0)) (gN 4) mYes (mCall d_least_by (mCons (mV 4) (mCons (mV 1) (mCons (mV 2) mNil)))))) (sRet (mA dMax (mCons (m2 dAdd (mA dLst (mCons (mV 1) mNil)) (eLc [5] (iD (mV 3)) (gN 5) (mB (m2 dIsNot (mV 5) (mC .non))) (mA dInt (mCons (mV 5) mNil)))) mNil))))
def d_least_end : List D → M D := dn 3 6 b_least_end
theorem ok_least_end {P : Program} {w : World} {K : PySem.W.Frag} {mg : Str → Option Value} {base : Heap} {cl : Nat → Addr} {hs : Bool} {pd pg pc : Addr} (R : Raw K mg cl) : Ok P w K mg base 2 (ga K "least_end") [("looks" : Str), ("number" : Str), ("length" : Str)] (spD (mkG K cl hs pd pg pc) d_least_end) :=
  ok_def (G := (mkG K cl hs pd pg pc)) (N := [("looks" : Str), ("number" : Str), ("length" : Str), ("some" : Str), ("look" : Str), ("one" : Str)]) (ps := [("looks" : Str), ("number" : Str), ("length" : Str)]) R.fleast_end ⟨rfl, rfl, rfl, by decide +kernel, rfl, by decide +kernel, by decide +kernel⟩ (fun _ _ _ _ _ _ us hl => match us, hl with | [_, _, _], _ => rfl) rfl (by decide) fun cdv A outer s F H E c => by
      refine dss_cons ?_ ?_
      · exact (ds_setLc (n := 3) (own := [(("look" : Str), 4)]) c rfl rfl (sw_true rfl rfl rfl (by rfl)) (di_seq c (de_v 0)) (blkOk_by (by rfl)) (fun s8 H8 _ _ p8 => (dg_name (c.blk s8 H8 _ _ p8) (by decide))) (fun s8 H8 _ _ p8 => dts_nil) (fun s8 H8 _ _ p8 => (dc_call (c.blk s8 H8 _ _ p8) (by decide) (ok_least_by R) rfl R.gleast_by R.kleast_by (da_cons (de_v 4) (da_cons (de_v 1) (da_cons (de_v 2) da_nil))))))
      refine dss_one ?_
      exact (ds_ret (de_callB (callr_max c) cal_max rfl R.bmax (da_cons (de_add c (de_lst (da_cons (de_v 1) da_nil)) (de_lc (own := [(("one" : Str), 5)]) c (di_seq c (de_v 3)) (blkOk_by (by rfl)) (fun s9 H9 _ _ p9 => (dg_name (c.blk s9 H9 _ _ p9) (by decide))) (fun s9 H9 _ _ p9 => (dts_one (dt_cm op_isNotAll opd_isNot (nomark _) (de_v 5) de_non))) (fun s9 H9 _ _ p9 => (de_callTy call_int1 cal_int rfl R.bint (da_cons (de_v 5) da_nil))))) da_nil)))
/-! ### SeenDaily.least_ends -/
def b_SeenDaily_least_ends : SM := (sRet (mA dTuple (mCons (eLc [1] (iRg1 (m1 (dFld 2 fl "own_length") (mV 0))) (gN 1) mYes (mCall d_least_end (mCons (m1 (dFld 2 fl "own_looks") (mV 0)) (mCons (mV 1) (mCons (m1 (dFld 2 fl "own_length") (mV 0)) mNil))))) mNil)))
def d_SeenDaily_least_ends : List D → M D := dn 1 2 b_SeenDaily_least_ends
theorem ok_SeenDaily_least_ends {P : Program} {w : World} {K : PySem.W.Frag} {mg : Str → Option Value} {base : Heap} {cl : Nat → Addr} {hs : Bool} {pd pg pc : Addr} (R : Raw K mg cl) : Ok P w K mg base 3 (ma K (cl 1) "least_ends") [("self" : Str)] (spD (mkG K cl hs pd pg pc) d_SeenDaily_least_ends) :=
  ok_def (G := (mkG K cl hs pd pg pc)) (N := [("self" : Str), ("number" : Str)]) (ps := [("self" : Str)]) R.fSeenDaily_least_ends ⟨rfl, rfl, rfl, by decide +kernel, rfl, by decide +kernel, by decide +kernel⟩ (fun _ _ _ _ _ _ us hl => match us, hl with | [_], _ => rfl) rfl (by decide) fun cdv A outer s F H E c => by
      refine dss_one ?_
      exact (ds_ret (de_callTy (callr_tuple c) cal_tuple rfl R.btuple (da_cons (de_lc (own := [(("number" : Str), 1)]) c (di_rg1 rfl R.brange (de_fld c (R.KO _ _ _ _) (de_v 0))) (blkOk_by (by rfl)) (fun s7 H7 _ _ p7 => (dg_name (c.blk s7 H7 _ _ p7) (by decide))) (fun s7 H7 _ _ p7 => dts_nil) (fun s7 H7 _ _ p7 => (dc_call (c.blk s7 H7 _ _ p7) (by decide) (ok_least_end R) rfl R.gleast_end R.kleast_end (da_cons (de_fld (c.blk s7 H7 _ _ p7) (R.KO _ _ _ _) (de_v 0)) (da_cons (de_v 1) (da_cons (de_fld (c.blk s7 H7 _ _ p7) (R.KO _ _ _ _) (de_v 0)) da_nil)))))) da_nil)))
/-! ### SeenDaily.least -/
def b_SeenDaily_least : SM := (sRet (mCall d_daily_by (mCons (mMeth 1 d_SeenDaily_least_ends (mV 0) mNil) mNil)))
def d_SeenDaily_least : List D → M D := dn 1 1 b_SeenDaily_least
theorem ok_SeenDaily_least {P : Program} {w : World} {K : PySem.W.Frag} {mg : Str → Option Value} {base : Heap} {cl : Nat → Addr} {hs : Bool} {pd pg pc : Addr} (R : Raw K mg cl) : Ok P w K mg base 7 (ma K (cl 1) "least") [("self" : Str)] (spD (mkG K cl hs pd pg pc) d_SeenDaily_least) :=
  ok_def (G := (mkG K cl hs pd pg pc)) (N := [("self" : Str)]) (ps := [("self" : Str)]) R.fSeenDaily_least ⟨rfl, rfl, rfl, by decide +kernel, rfl, by decide +kernel, by decide +kernel⟩ (fun _ _ _ _ _ _ us hl => match us, hl with | [_], _ => rfl) rfl (by decide) fun cdv A outer s F H E c => by
      refine dss_one ?_
      exact (ds_ret (dc_call c (by decide) (ok_daily_by R) rfl R.gdaily_by R.kdaily_by (da_cons (dc_meth0 c (by decide) (ok_SeenDaily_least_ends R) ((R.KO _ _ _ _).cls 1 (show 1 < 2 by decide)) R.mSeenDaily_least_ends (show ("least_ends" : Str) ∉ fl 1 by decide +kernel) (de_v 0)) da_nil)))
/-! ### most_end -/
def b_most_end : SM := (sSeq (sSet 3 (eLc [5] (iD (mV 0)) (gN 5) mYes (mCall d_most_by (mCons (mV 5) (mCons (mV 1) (mCons (mV 2) mNil)))))) (sSeq (sSet 4 (eLc [6] (iD (mV 3)) (gN 6) (mB (m2 dIsNot (mV 6) (mC .non))) (mA dInt (mCons (mV 6) mNil)))) (sRet (mIte (mB (m2 dEq (mV 4) (mA dLst mNil))) (mC .non) (mA dMin (mCons (mV 4) mNil))))))
def d_most_end : List D → M D := dn 3 7 b_most_end
theorem ok_most_end {P : Program} {w : World} {K : PySem.W.Frag} {mg : Str → Option Value} {base : Heap} {cl : Nat → Addr} {hs : Bool} {pd pg pc : Addr} (R : Raw K mg cl) : Ok P w K mg base 2 (ga K "most_end") [("looks" : Str), ("number" : Str), ("length" : Str)] (spD (mkG K cl hs pd pg pc) d_most_end) :=
  ok_def (G := (mkG K cl hs pd pg pc)) (N := [("looks" : Str), ("number" : Str), ("length" : Str), ("some" : Str), ("ends" : Str), ("look" : Str), ("one" : Str)]) (ps := [("looks" : Str), ("number" : Str), ("length" : Str)]) R.fmost_end ⟨rfl, rfl, rfl, by decide +kernel, rfl, by decide +kernel, by decide +kernel⟩ (fun _ _ _ _ _ _ us hl => match us, hl with | [_, _, _], _ => rfl) rfl (by decide) fun cdv A outer s F H E c => by
      refine dss_cons ?_ ?_
      · exact (ds_setLc (n := 3) (own := [(("look" : Str), 5)]) c rfl rfl (sw_true rfl rfl rfl (by rfl)) (di_seq c (de_v 0)) (blkOk_by (by rfl)) (fun s11 H11 _ _ p11 => (dg_name (c.blk s11 H11 _ _ p11) (by decide))) (fun s11 H11 _ _ p11 => dts_nil) (fun s11 H11 _ _ p11 => (dc_call (c.blk s11 H11 _ _ p11) (by decide) (ok_most_by R) rfl R.gmost_by R.kmost_by (da_cons (de_v 5) (da_cons (de_v 1) (da_cons (de_v 2) da_nil))))))
      refine dss_cons ?_ ?_
      · exact (ds_setLc (n := 4) (own := [(("one" : Str), 6)]) c rfl rfl (sw_true rfl rfl rfl (by rfl)) (di_seq c (de_v 3)) (blkOk_by (by rfl)) (fun s12 H12 _ _ p12 => (dg_name (c.blk s12 H12 _ _ p12) (by decide))) (fun s12 H12 _ _ p12 => (dts_one (dt_cm op_isNotAll opd_isNot (nomark _) (de_v 6) de_non))) (fun s12 H12 _ _ p12 => (de_callTy call_int1 cal_int rfl R.bint (da_cons (de_v 6) da_nil))))
      refine dss_one ?_
      exact (ds_ret (de_if (dt_cm (op_eqc c) opd_eq (nomark _) (de_v 4) (de_lst da_nil)) de_non (de_callB (callr_min c) cal_min rfl R.bmin (da_cons (de_v 4) da_nil))))
/-! ### SeenDaily.most_ends -/
def b_SeenDaily_most_ends : SM := (sSeq (sIf (mB (m2 dIs (mCall d_most_end (mCons (m1 (dFld 2 fl "own_looks") (mV 0)) (mCons (mC (.int 0)) (mCons (m1 (dFld 2 fl "own_length") (mV 0)) mNil)))) (mC .non))) (sRet (mC .non)) sNext) (sRet (mA dTuple (mCons (eLc [1] (iRg1 (m1 (dFld 2 fl "own_length") (mV 0))) (gN 1) mYes (mCall d_most_end (mCons (m1 (dFld 2 fl "own_looks") (mV 0)) (mCons (mV 1) (mCons (m1 (dFld 2 fl "own_length") (mV 0)) mNil))))) mNil))))
def d_SeenDaily_most_ends : List D → M D := dn 1 2 b_SeenDaily_most_ends
theorem ok_SeenDaily_most_ends {P : Program} {w : World} {K : PySem.W.Frag} {mg : Str → Option Value} {base : Heap} {cl : Nat → Addr} {hs : Bool} {pd pg pc : Addr} (R : Raw K mg cl) : Ok P w K mg base 3 (ma K (cl 1) "most_ends") [("self" : Str)] (spD (mkG K cl hs pd pg pc) d_SeenDaily_most_ends) :=
  ok_def (G := (mkG K cl hs pd pg pc)) (N := [("self" : Str), ("number" : Str)]) (ps := [("self" : Str)]) R.fSeenDaily_most_ends ⟨rfl, rfl, rfl, by decide +kernel, rfl, by decide +kernel, by decide +kernel⟩ (fun _ _ _ _ _ _ us hl => match us, hl with | [_], _ => rfl) rfl (by decide) fun cdv A outer s F H E c => by
      refine dss_cons ?_ ?_
      · refine ds_if ?_ ?_ ?_
        · exact (dt_cm op_isAll opd_is (nomark _) (dc_call c (by decide) (ok_most_end R) rfl R.gmost_end R.kmost_end (da_cons (de_fld c (R.KO _ _ _ _) (de_v 0)) (da_cons de_int (da_cons (de_fld c (R.KO _ _ _ _) (de_v 0)) da_nil)))) de_non)
        · refine dss_one ?_
          exact (ds_ret de_non)
        · exact dss_nil
      refine dss_one ?_
      exact (ds_ret (de_callTy (callr_tuple c) cal_tuple rfl R.btuple (da_cons (de_lc (own := [(("number" : Str), 1)]) c (di_rg1 rfl R.brange (de_fld c (R.KO _ _ _ _) (de_v 0))) (blkOk_by (by rfl)) (fun s10 H10 _ _ p10 => (dg_name (c.blk s10 H10 _ _ p10) (by decide))) (fun s10 H10 _ _ p10 => dts_nil) (fun s10 H10 _ _ p10 => (dc_call (c.blk s10 H10 _ _ p10) (by decide) (ok_most_end R) rfl R.gmost_end R.kmost_end (da_cons (de_fld (c.blk s10 H10 _ _ p10) (R.KO _ _ _ _) (de_v 0)) (da_cons (de_v 1) (da_cons (de_fld (c.blk s10 H10 _ _ p10) (R.KO _ _ _ _) (de_v 0)) da_nil)))))) da_nil)))
/-! ### SeenDaily.greatest -/
def b_SeenDaily_greatest : SM := (sSeq (sSet 1 (mMeth 1 d_SeenDaily_most_ends (mV 0) mNil)) (sRet (mIte (mB (m2 dIs (mV 1) (mC .non))) (mC .non) (mCall d_daily_by (mCons (mV 1) mNil)))))
def d_SeenDaily_greatest : List D → M D := dn 1 2 b_SeenDaily_greatest
theorem ok_SeenDaily_greatest {P : Program} {w : World} {K : PySem.W.Frag} {mg : Str → Option Value} {base : Heap} {cl : Nat → Addr} {hs : Bool} {pd pg pc : Addr} (R : Raw K mg cl) : Ok P w K mg base 7 (ma K (cl 1) "greatest") [("self" : Str)] (spD (mkG K cl hs pd pg pc) d_SeenDaily_greatest) :=
  ok_def (G := (mkG K cl hs pd pg pc)) (N := [("self" : Str), ("ends" : Str)]) (ps := [("self" : Str)]) R.fSeenDaily_greatest ⟨rfl, rfl, rfl, by decide +kernel, rfl, by decide +kernel, by decide +kernel⟩ (fun _ _ _ _ _ _ us hl => match us, hl with | [_], _ => rfl) rfl (by decide) fun cdv A outer s F H E c => by
      refine dss_cons ?_ ?_
      · exact (ds_set (i := 1) c (dc_meth0 c (by decide) (ok_SeenDaily_most_ends R) ((R.KO _ _ _ _).cls 1 (show 1 < 2 by decide)) R.mSeenDaily_most_ends (show ("most_ends" : Str) ∉ fl 1 by decide +kernel) (de_v 0)))
      refine dss_one ?_
      exact (ds_ret (de_if (dt_cm op_isAll opd_is (nomark _) (de_v 1) de_non) de_non (dc_call c (by decide) (ok_daily_by R) rfl R.gdaily_by R.kdaily_by (da_cons (de_v 1) da_nil))))
/-! ### Daily.length -/
def b_Daily_length : SM := (sRet (mA dLen (mCons (m1 (dFld 2 fl "own_ends") (mV 0)) mNil)))
def d_Daily_length : List D → M D := dn 1 1 b_Daily_length
theorem ok_Daily_length {P : Program} {w : World} {K : PySem.W.Frag} {mg : Str → Option Value} {base : Heap} {cl : Nat → Addr} {hs : Bool} {pd pg pc : Addr} (R : Raw K mg cl) : Ok P w K mg base 1 (pa K (cl 0) "length") [("self" : Str)] (spD (mkG K cl hs pd pg pc) d_Daily_length) :=
  ok_def (G := (mkG K cl hs pd pg pc)) (N := [("self" : Str)]) (ps := [("self" : Str)]) R.fDaily_length ⟨rfl, rfl, rfl, by decide +kernel, rfl, by decide +kernel, by decide +kernel⟩ (fun _ _ _ _ _ _ us hl => match us, hl with | [_], _ => rfl) rfl (by decide) fun cdv A outer s F H E c => by
      refine dss_one ?_
      exact (ds_ret (de_callB (callr_len c) cal_len rfl R.blen (da_cons (de_fld c (R.KO _ _ _ _) (de_v 0)) da_nil)))
/-! ### need_numbers -/
def b_need_numbers : SM := (sIf (mNotT (mB (mA dAll (mCons (eLc [1] (iD (mV 0)) (gN 1) mYes (mCall d_is_number (mCons (mV 1) mNil))) mNil)))) sBad sNext)
def d_need_numbers : List D → M D := dnS 0 2 b_need_numbers
theorem ok_need_numbers {P : Program} {w : World} {K : PySem.W.Frag} {mg : Str → Option Value} {base : Heap} {cl : Nat → Addr} {hs : Bool} {pd pg pc : Addr} (R : Raw K mg cl) : FnRD P w K mg base 2 (ga K "need_numbers") (mkG K cl hs pd pg pc) d_need_numbers := by
  obtain ⟨fd, Df⟩ := R.fneed_numbers
  exact star_ok (G := (mkG K cl hs pd pg pc)) (N := [("numbers" : Str), ("number" : Str)]) (ps := []) (pv := "numbers") Df ⟨rfl, rfl, rfl, by decide +kernel, rfl, by decide +kernel, by decide +kernel⟩ rfl (by decide) (fun _ _ _ _ _ _ _ us rest hl => match us, rest, hl with | [], [], _ => rfl | [], _ :: _, _ => rfl) (fun cdv A outer s F H E c => by
      refine dss_one ?_
      refine ds_if ?_ ?_ ?_
      · refine dt_not ?_
        exact (dt_val (de_callB (callr_all c) cal_all rfl R.ball (da_cons (de_lc (own := [(("number" : Str), 1)]) c (di_seq c (de_v 0)) (blkOk_by (by rfl)) (fun s13 H13 _ _ p13 => (dg_name (c.blk s13 H13 _ _ p13) (by decide))) (fun s13 H13 _ _ p13 => dts_nil) (fun s13 H13 _ _ p13 => (dc_call (c.blk s13 H13 _ _ p13) (by decide) (ok_is_number R) rfl R.gis_number R.kis_number (da_cons (de_v 1) da_nil)))) da_nil)))
      · refine dss_one ?_
        exact ds_bad
      · exact dss_nil)
/-! ### led_on -/
def b_led_on : SM := (sSeq (sSet 2 (mA dLen (mCons (mV 0) mNil))) (sRet (m2 dAdd (m2 dIx (mV 0) (m2 dMod (mV 1) (mV 2))) (m2 dMul (mV 2) (m2 dDiv (mV 1) (mV 2))))))
def d_led_on : List D → M D := dn 2 3 b_led_on
theorem ok_led_on {P : Program} {w : World} {K : PySem.W.Frag} {mg : Str → Option Value} {base : Heap} {cl : Nat → Addr} {hs : Bool} {pd pg pc : Addr} (R : Raw K mg cl) : Ok P w K mg base 1 (ga K "led_on") [("ends" : Str), ("number" : Str)] (spD (mkG K cl hs pd pg pc) d_led_on) :=
  ok_def (G := (mkG K cl hs pd pg pc)) (N := [("ends" : Str), ("number" : Str), ("length" : Str)]) (ps := [("ends" : Str), ("number" : Str)]) R.fled_on ⟨rfl, rfl, rfl, by decide +kernel, rfl, by decide +kernel, by decide +kernel⟩ (fun _ _ _ _ _ _ us hl => match us, hl with | [_, _], _ => rfl) rfl (by decide) fun cdv A outer s F H E c => by
      refine dss_cons ?_ ?_
      · exact (ds_set (i := 2) c (de_callB (callr_len c) cal_len rfl R.blen (da_cons (de_v 0) da_nil)))
      refine dss_one ?_
      exact (ds_ret (de_add c (de_ix c (de_v 0) (de_mod (de_v 1) (de_v 2))) (de_mul (de_v 2) (de_div (de_v 1) (de_v 2)))))
/-! ### Daily.end -/
def b_Daily_end : SM := (sSeq (sExpr (mCall d_need_numbers (mCons (mV 1) mNil))) (sRet (mCall d_led_on (mCons (m1 (dFld 2 fl "own_ends") (mV 0)) (mCons (mV 1) mNil)))))
def d_Daily_end : List D → M D := dn 2 2 b_Daily_end
theorem ok_Daily_end {P : Program} {w : World} {K : PySem.W.Frag} {mg : Str → Option Value} {base : Heap} {cl : Nat → Addr} {hs : Bool} {pd pg pc : Addr} (R : Raw K mg cl) : Ok P w K mg base 3 (ma K (cl 0) "end") [("self" : Str), ("number" : Str)] (spD (mkG K cl hs pd pg pc) d_Daily_end) :=
  ok_def (G := (mkG K cl hs pd pg pc)) (N := [("self" : Str), ("number" : Str)]) (ps := [("self" : Str), ("number" : Str)]) R.fDaily_end ⟨rfl, rfl, rfl, by decide +kernel, rfl, by decide +kernel, by decide +kernel⟩ (fun _ _ _ _ _ _ us hl => match us, hl with | [_, _], _ => rfl) rfl (by decide) fun cdv A outer s F H E c => by
      refine dss_cons ?_ ?_
      · exact (ds_expr (de_callR c (by decide) (ok_need_numbers R) rfl R.gneed_numbers R.kneed_numbers (da_cons (de_v 1) da_nil)))
      refine dss_one ?_
      exact (ds_ret (dc_call c (by decide) (ok_led_on R) rfl R.gled_on R.kled_on (da_cons (de_fld c (R.KO _ _ _ _) (de_v 0)) (da_cons (de_v 1) da_nil))))
/-! ### SeenDaily.fits -/
def b_SeenDaily_fits : SM := (sSeq (sIf (mOrT (mNotT (mB (mIsi 2 (.own 0) (mV 1)))) (mB (m2 dNe (mProp 0 d_Daily_length (mV 1)) (m1 (dFld 2 fl "own_length") (mV 0))))) (sRet (mC (.bl false))) sNext) (sSeq (sFor (iD (m1 (dFld 2 fl "own_looks") (mV 0))) (gT 3 (gC (gN 2) (gC (gN 3) (gC (gN 4) gE)))) (sSeq (sSet 5 (mMeth 0 d_Daily_end (mV 1) (mCons (mV 2) mNil))) (sIf (mOrT (mAndT (mB (m2 dEq (mV 3) (mC (.str "is")))) (mB (m2 dNe (mV 5) (mV 4)))) (mOrT (mAndT (mB (m2 dEq (mV 3) (mC (.str "by")))) (mB (m2 dGt (mV 5) (mV 4)))) (mAndT (mB (m2 dEq (mV 3) (mC (.str "after")))) (mB (m2 dLe (mV 5) (mV 4)))))) (sRet (mC (.bl false))) sNext))) (sRet (mC (.bl true)))))
def d_SeenDaily_fits : List D → M D := dn 2 6 b_SeenDaily_fits
theorem ok_SeenDaily_fits {P : Program} {w : World} {K : PySem.W.Frag} {mg : Str → Option Value} {base : Heap} {cl : Nat → Addr} {hs : Bool} {pd pg pc : Addr} (R : Raw K mg cl) : Ok P w K mg base 4 (ma K (cl 1) "fits") [("self" : Str), ("thing" : Str)] (spD (mkG K cl hs pd pg pc) d_SeenDaily_fits) :=
  ok_def (G := (mkG K cl hs pd pg pc)) (N := [("self" : Str), ("thing" : Str), ("begin" : Str), ("word" : Str), ("end" : Str), ("here" : Str)]) (ps := [("self" : Str), ("thing" : Str)]) R.fSeenDaily_fits ⟨rfl, rfl, rfl, by decide +kernel, rfl, by decide +kernel, by decide +kernel⟩ (fun _ _ _ _ _ _ us hl => match us, hl with | [_, _], _ => rfl) rfl (by decide) fun cdv A outer s F H E c => by
      refine dss_cons ?_ ?_
      · refine ds_if ?_ ?_ ?_
        · refine dt_w (dw_or ?_ (dw_or1 ?_))
          · refine dt_not ?_
            exact (dt_val (de_isi c (R.KO _ _ _ _) rfl rfl R.bisinstance (de_v 1) (pe_glob (v := .ref (cl 0)) rfl R.gDaily rfl)))
          · exact (dt_cm (op_nec c) opd_ne (nomark _) (dc_prop c (by decide) (ok_Daily_length R) ((R.KO _ _ _ _).cls 0 (show 0 < 2 by decide)) R.pDaily_length (de_v 1)) (de_fld c (R.KO _ _ _ _) (de_v 0)))
        · refine dss_one ?_
          exact (ds_ret de_bl)
        · exact dss_nil
      refine dss_cons ?_ ?_
      · refine ds_for (vs := [2, 3, 4]) c owns_def (di_seq c (de_fld c (R.KO _ _ _ _) (de_v 0))) (dg_tup c (dgs_cons (dg_name c (by decide)) (dgs_cons (dg_name c (by decide)) (dgs_cons (dg_name c (by decide)) dgs_nil)))) ?_
        refine dss_cons ?_ ?_
        · exact (ds_set (i := 5) c (dc_meth c (by decide) (ok_Daily_end R) ((R.KO _ _ _ _).cls 0 (show 0 < 2 by decide)) R.mDaily_end (show ("end" : Str) ∉ fl 0 by decide +kernel) (de_v 1) (da_cons (de_v 2) da_nil)))
        refine dss_one ?_
        refine ds_if ?_ ?_ ?_
        · refine dt_w (dw_or ?_ (dw_or ?_ (dw_or1 ?_)))
          · refine dt_w (dw_and ?_ (dw_and1 ?_))
            · exact (dt_cm (op_eqc c) opd_eq (nomark _) (de_v 3) de_str)
            · exact (dt_cm (op_nec c) opd_ne (nomark _) (de_v 5) (de_v 4))
          · refine dt_w (dw_and ?_ (dw_and1 ?_))
            · exact (dt_cm (op_eqc c) opd_eq (nomark _) (de_v 3) de_str)
            · exact (dt_cm op_gt opd_gt (nomark _) (de_v 5) (de_v 4))
          · refine dt_w (dw_and ?_ (dw_and1 ?_))
            · exact (dt_cm (op_eqc c) opd_eq (nomark _) (de_v 3) de_str)
            · exact (dt_cm op_le opd_le (nomark _) (de_v 5) (de_v 4))
        · refine dss_one ?_
          exact (ds_ret de_bl)
        · exact dss_nil
      refine dss_one ?_
      exact (ds_ret de_bl)
/-! ### Daily.__eq__ -/
def b_Daily___eq : SM := (sRet (mAndV (mIsi 2 (.own 0) (mV 1)) (m2 dEq (m1 (dFld 2 fl "own_ends") (mV 0)) (m1 (dFld 2 fl "own_ends") (mV 1)))))
def d_Daily___eq : List D → M D := dn 2 2 b_Daily___eq
theorem ok_Daily___eq {P : Program} {w : World} {K : PySem.W.Frag} {mg : Str → Option Value} {base : Heap} {cl : Nat → Addr} {hs : Bool} {pd pg pc : Addr} (R : Raw K mg cl) : Ok P w K mg base 1 (ma K (cl 0) "__eq__") [("self" : Str), ("other" : Str)] (spD (mkG K cl hs pd pg pc) d_Daily___eq) :=
  ok_def (G := (mkG K cl hs pd pg pc)) (N := [("self" : Str), ("other" : Str)]) (ps := [("self" : Str), ("other" : Str)]) R.fDaily___eq ⟨rfl, rfl, rfl, by decide +kernel, rfl, by decide +kernel, by decide +kernel⟩ (fun _ _ _ _ _ _ us hl => match us, hl with | [_, _], _ => rfl) rfl (by decide) fun cdv A outer s F H E c => by
      refine dss_one ?_
      exact (ds_ret (de_and (de_isi c (R.KO _ _ _ _) rfl rfl R.bisinstance (de_v 1) (pe_glob (v := .ref (cl 0)) rfl R.gDaily rfl)) (de_one (de_cm (op_eqc c) opd_eq (nomark _) (de_fld c (R.KO _ _ _ _) (de_v 0)) (de_fld c (R.KO _ _ _ _) (de_v 1))))))
/-! ### _law_is -/
def b_law_is : SM := (sRet (mAndV (mCall (d_law_plain 4) (mCons (mV 0) mNil)) (mAndV (m2 dEq (mV 0) (mV 1)) (mAndV (m2 dEq (mV 1) (mV 0)) (m2 dEq (mA dRepr (mCons (mV 0) mNil)) (mA dRepr (mCons (mV 1) mNil)))))))
def d_law_is : List D → M D := dn 2 2 b_law_is
theorem ok_law_is {P : Program} {w : World} {K : PySem.W.Frag} {mg : Str → Option Value} {base : Heap} {cl : Nat → Addr} {hs : Bool} {pd pg pc : Addr} (R : Raw K mg cl) : OkG P w K mg base 6 (ga K "_law_is") [("found" : Str), ("due" : Str)] (spD (mkG K cl hs pd pg pc) d_law_is) :=
  okG_def (G := (mkG K cl hs pd pg pc)) (N := [("found" : Str), ("due" : Str)]) (ps := [("found" : Str), ("due" : Str)]) R.flaw_is ⟨rfl, rfl, rfl, by decide +kernel, rfl, by decide +kernel, by decide +kernel⟩ (fun _ _ _ _ _ _ us hl => match us, hl with | [_, _], _ => rfl) rfl (by decide) fun cdv A outer s F H E c hgd => by
      refine dss_one ?_
      exact (ds_ret (de_and (dc_call c (by decide) (ok_law_plain R 4) rfl R.glaw_plain R.klaw_plain (da_cons (de_v 0) da_nil)) (de_and (de_cm (op_eqc c) opd_eq (nomark _) (de_v 0) (de_v 1)) (de_and (de_cm (op_eqc c) opd_eq (nomark _) (de_v 1) (de_v 0)) (de_one (de_cm (op_eqc c) opd_eq (nomark _) (de_callB (callr_repr c hgd) cal_repr rfl R.brepr (da_cons (de_v 0) da_nil)) (de_callB (callr_repr c hgd) cal_repr rfl R.brepr (da_cons (de_v 1) da_nil))))))))
/-! ### _law_begun -/
theorem ok_law_begun {P : Program} {w : World} {K : PySem.W.Frag} {mg : Str → Option Value} {base : Heap} {cl : Nat → Addr} (R : Raw K mg cl) : Ok P w K mg base 1 (ga K "_law_begun") [("script" : Str)] (spBegun K) := by
  obtain ⟨fd, Df⟩ := R.flaw_begun
  have Sc : FnScope [("script" : Str), ("great" : Str), ("cell" : Str)] [("script" : Str)] (defScope (top 37)) := ⟨rfl, rfl, rfl, by decide +kernel, rfl, by decide +kernel, by decide +kernel⟩
  refine ⟨fd, Df.ok (CX := L2.CX P w) (k := 0) Sc (fun vs H Q E h => by obtain ⟨a, ns, rfl, _⟩ := h; rfl) (fun cdv A outer s H vs Q E hr h => ?_), Df.bindsN (fun _ _ _ _ _ _ us hl => match us, hl with | [_], _ => rfl), lk_of Df⟩
  obtain ⟨F, hq⟩ := begun_read (E := E) (N := [("script" : Str), ("great" : Str), ("cell" : Str)]) rfl h
  have c : Cok ⟨bgG K, F, H, E, 0⟩ (cxD P w K mg base [("script" : Str), ("great" : Str), ("cell" : Str)] "_law_begun" (defScope (top 37)) (ga K "_law_begun") cdv A outer s H E) 0 := cok_def Sc.nd rfl hr
  exact ⟨_, pss_cons (ds_setLcZ (n := 1) (own := [(("cell" : Str), 2)]) c rfl rfl (sw_true rfl rfl rfl (by rfl)) (di_seq c (de_v 0)) (blkOk_by (by rfl)) (fun s21 H21 _ _ p21 => (dg_name (c.blk s21 H21 _ _ p21) (by decide))) (fun s21 H21 _ _ p21 => (dts_one (dt_cm op_ge opd_ge (nomark _) (de_callB call_abs cal_abs rfl R.babs (da_cons (de_v 2) da_nil)) (de_pow de_int de_int)))) (fun s21 H21 _ _ p21 => (de_sub (de_callB call_abs cal_abs rfl R.babs (da_cons (de_v 2) da_nil)) (de_pow de_int de_int)))) (pss_one (ps_ret (pe_disp (pps_cons pe_str (pe_var rfl (by first | exact Or.inl rfl | exact Or.inr (Or.inl rfl))) (pps_cons pe_str (dz_lc (own := [(("cell" : Str), 2)]) c (di_seq c (de_v 0)) (blkOk_by (by rfl)) (fun s22 H22 _ _ p22 => (dg_name (c.blk s22 H22 _ _ p22) (by decide))) (fun s22 H22 _ _ p22 => dts_nil) (fun s22 H22 _ _ p22 => (de_callB call_abs cal_abs rfl R.babs (da_cons (de_v 2) da_nil)))) (pps_cons pe_str pe_int (pps_cons pe_str pe_int pps_nil)))) rfl rfl (by simp) (by decide)))), hq⟩
theorem okK_SeenDaily_fits {P : Program} {w : World} {K : PySem.W.Frag} {mg : Str → Option Value} {base : Heap} {cl : Nat → Addr} {hs : Bool} {pd pg pc : Addr} (R : Raw K mg cl) : OkK P w K mg base 4 (ma K (cl 1) "fits") [("self" : Str), ("thing" : Str)] 1 [("thing" : Str)] (spD (mkG K cl hs pd pg pc) d_SeenDaily_fits) :=
  okK_of (ok_SeenDaily_fits R) R.fSeenDaily_fits (fun _ _ _ _ _ _ us ws h1 h2 => match us, ws, h1, h2 with | [_], [_], _, _ => rfl)
end Lw

namespace Lw
open PySem PySem.Spec L2 Dv He
/-! ### law -/
def b_law : SM := (sSeq (sFor (iRg1 (m2 dAdd (mC (.int 3)) (mA dMin (mCons (mA dLen (mCons (mV 0) mNil)) (mCons (mC (.int 4)) mNil))))) (gN 2) (sSeq (sSet 3 (mCall d_law_some_length (mCons (mV 1) mNil))) (sSeq (sSetG (gT 2 (gC (gN 4) (gC (gN 5) gE))) (mCall d_law_some_seen (mCons (mV 1) (mCons (mV 3) (mCons (mCall d_law_pick (mCons (mV 1) (mCons (mA dLst (mCons (mC (.int 1)) (mCons (mC (.int 3)) (mCons (mC (.int 8)) (mCons (mC (.int 30)) mNil))))) mNil))) mNil))))) (sSeq (sSet 6 (mMake 1 d_SeenDaily___init (mCons (mV 3) (mCons (mV 4) mNil)))) (sSeq (sSetG (gT 2 (gC (gN 7) (gC (gN 8) gE))) (mCall d_law_bounds (mCons (mV 4) (mCons (mV 3) mNil)))) (sSeq (sSetG (gT 2 (gC (gN 9) (gC (gN 10) gE))) (mA dTup (mCons (mMeth 1 d_SeenDaily_least (mV 6) mNil) (mCons (mMeth 1 d_SeenDaily_greatest (mV 6) mNil) mNil)))) (sSeq (sIf (mOrT (mNotT (mB (mIsi 2 (.own 0) (mV 9)))) (mOrT (mNotT (mB (mCall d_law_is (mCons (eLc [17] (iRg1 (mV 3)) (gN 17) mYes (mMeth 0 d_Daily_end (mV 9) (mCons (mV 17) mNil))) (mCons (mV 7) mNil))))) (mNotT (mB (mOEq 0 d_Daily___eq (mV 9) (mCall d_law_daily (mCons (mV 7) mNil))))))) (sRet (mC (.bl false))) sNext) (sSeq (sIf (mB (m2 dNe (m2 dIs (mV 10) (mC .non)) (m2 dIs (mV 8) (mC .non)))) (sRet (mC (.bl false))) sNext) (sSeq (sIf (mAndT (mB (m2 dIsNot (mV 8) (mC .non))) (mOrT (mNotT (mB (mIsi 2 (.own 0) (mV 10)))) (mNotT (mB (mCall d_law_is (mCons (eLc [17] (iRg1 (mV 3)) (gN 17) mYes (mMeth 0 d_Daily_end (mV 10) (mCons (mV 17) mNil))) (mCons (mV 8) mNil))))))) (sRet (mC (.bl false))) sNext) (sSeq (sIf (mOrT (mB (m2 dIsNot (mMeth 1 d_SeenDaily_fits (mV 6) (mCons (mV 9) mNil)) (mC (.bl true)))) (mOrT (mAndT (mB (m2 dIsNot (mV 8) (mC .non))) (mB (m2 dIsNot (mMeth 1 d_SeenDaily_fits (mV 6) (mCons (mV 10) mNil)) (mC (.bl true))))) (mB (m2 dIsNot (mMeth 1 d_SeenDaily_fits (mV 6) (mCons (mCall d_law_daily (mCons (mV 5) mNil)) mNil)) (mC (.bl true)))))) (sRet (mC (.bl false))) sNext) (sSeq (sSet 11 (mIte (mB (m2 dIsNot (mV 8) (mC .non))) (mV 8) (eLc [18] (iD (mV 7)) (gN 18) mYes (m2 dAdd (mV 18) (mV 3))))) (sSeq (sSet 12 (mA dLst (mCons (mCall d_law_between (mCons (mV 1) (mCons (mV 7) (mCons (mV 11) mNil)))) (mCons (mCall d_law_between (mCons (mV 1) (mCons (mV 7) (mCons (eLc [18] (iD (mV 11)) (gN 18) mYes (m2 dAdd (mV 18) (mC (.int 3)))) mNil)))) mNil)))) (sSeq (sSet 12 (m2 dAdd (mV 12) (mA dLst (mCons (mCall d_law_some_ends (mCons (mV 1) (mCons (mV 3) mNil))) (mCons (mV 5) (mCons (mCall d_law_between (mCons (mV 1) (mCons (mRgL (mRg1 (mV 3))) (mCons (mV 11) mNil)))) mNil)))))) (sSeq (sFor (iD (mV 12)) (gN 13) (sSeq (sSet 14 (m2 dEq (eLc [19, 20] (iZpD (mV 7) (mV 13)) (gT 2 (gC (gN 19) (gC (gN 20) gE))) (mB (m2 dGt (mV 19) (mV 20))) (mC (.int 1))) (mA dLst mNil))) (sSeq (sIf (mAndT (mB (m2 dIsNot (mV 8) (mC .non))) (mB (m2 dNe (eLc [19, 20] (iZpD (mV 13) (mV 8)) (gT 2 (gC (gN 19) (gC (gN 20) gE))) (mB (m2 dGt (mV 19) (mV 20))) (mC (.int 1))) (mA dLst mNil)))) (sSet 14 (mC (.bl false))) sNext) (sSeq (sIf (mB (m2 dNe (mV 14) (m2 dEq (eLc [21] (iD (mV 4)) (gN 21) (mNotT (mB (mCall d_law_has (mCons (mV 13) (mCons (mV 21) mNil))))) (mV 21)) (mA dLst mNil)))) (sRet (mC (.bl false))) sNext) (sIf (mNotT (mB (mCall d_law_says (mCons (mMeth 1 d_SeenDaily_fits (mV 6) (mCons (mCall d_law_daily (mCons (mV 13) mNil)) mNil)) (mCons (mV 14) mNil))))) (sRet (mC (.bl false))) sNext))))) (sSeq (sSet 15 (mIte (mB (m2 dLt (mV 3) (mC (.int 60)))) (mMake 0 d_Daily___init (mCons (m2 dAdd (mV 3) (mC (.int 1))) (mCons (mA dLst (mCons (mA dTup (mCons (mC (.int 0)) (mCons (mC (.int 0)) mNil))) mNil)) mNil))) (mMake 0 d_Daily___init (mCons (mC (.int 59)) (mCons (mA dLst (mCons (mA dTup (mCons (mC (.int 0)) (mCons (mC (.int 0)) mNil))) mNil)) mNil))))) (sFor (iD (mA dLst (mCons (mC .non) (mCons (mC (.int 5)) (mCons (mA dTuple (mCons (mV 7) mNil)) (mCons (mV 15) (mCons (mV 6) (mCons (mA dLst (mCons (mV 9) mNil)) (mCons (mC (.str "a")) (mCons (mC (.bl true)) mNil)))))))))) (gN 16) (sIf (mB (m2 dIsNot (mMeth 1 d_SeenDaily_fits (mV 6) (mCons (mV 16) mNil)) (mC (.bl false)))) (sRet (mC (.bl false))) sNext))))))))))))))))) (sRet (mC (.bl true))))
def nLaw : Nat := 21
theorem sc_law : FnScope [("script" : Str), ("state" : Str), ("turn" : Str), ("length" : Str), ("looks" : Str), ("ends" : Str), ("seen" : Str), ("low" : Str), ("high" : Str), ("least" : Str), ("most" : Str), ("top" : Str), ("some" : Str), ("here" : Str), ("is_between" : Str), ("stretched" : Str), ("thing" : Str), ("number" : Str), ("end" : Str), ("one" : Str), ("two" : Str), ("look" : Str)] [("script" : Str)] (defScope (top 55)) := ⟨rfl, rfl, rfl, by decide +kernel, rfl, by decide +kernel, by decide +kernel⟩
/-- what is to be shown of the draws -/
def LawTrue : Prop := ∀ ns : List Int, ns.length ≤ 63 → ∃ S', b_law (rho0 ns nLaw) (S0 ns) = (.ok (.rt (.bl true)), S')
theorem ok_law {P : Program} {w : World} {K : PySem.W.Frag} {mg : Str → Option Value} {base : Heap} {cl : Nat → Addr} (R : Raw K mg cl) (hlaw : LawTrue) {fd : FuncData} (Df : FunD K "law" "law" (defArgs (top 55)) (defBody (top 55)) (defScope (top 55)) [] [] (ga K "law") fd) :
    FnG P w K mg base (L2.CX P w) 8 (ga K "law") fd [("script" : Str)] (spLaw K) := by
  obtain ⟨fb, Fb, hbb, _⟩ := ok_law_begun (P := P) (w := w) (base := base) R
  refine fng_of (N := [("script" : Str), ("state" : Str), ("turn" : Str), ("length" : Str), ("looks" : Str), ("ends" : Str), ("seen" : Str), ("low" : Str), ("high" : Str), ("least" : Str), ("most" : Str), ("top" : Str), ("some" : Str), ("here" : Str), ("is_between" : Str), ("stretched" : Str), ("thing" : Str), ("number" : Str), ("end" : Str), ("one" : Str), ("two" : Str), ("look" : Str)]) (k := 7) Df sc_law (fun vs H Q E h => by obtain ⟨a, ns, rfl, _⟩ := h; rfl) fun cdv A outer s H vs Q E hr hgd h => ?_
  have c0 : Cok ⟨bgG K, H, H, E, 0⟩ (cxD P w K mg base [("script" : Str), ("state" : Str), ("turn" : Str), ("length" : Str), ("looks" : Str), ("ends" : Str), ("seen" : Str), ("low" : Str), ("high" : Str), ("least" : Str), ("most" : Str), ("top" : Str), ("some" : Str), ("here" : Str), ("is_between" : Str), ("stretched" : Str), ("thing" : Str), ("number" : Str), ("end" : Str), ("one" : Str), ("two" : Str), ("look" : Str)] "law" (defScope (top 55)) (ga K "law") cdv A outer s H E) 7 := cok_def sc_law.nd rfl hr
  refine ⟨_, pss_cons (ps_set c0.nd rfl (by first | exact .inl rfl | exact .inr rfl) (pe_call (Fb.mono (by decide)) c0.hr rfl R.glaw_begun R.klaw_begun hbb .nil c0.pass (pa_cons (pe_var rfl (by first | exact Or.inl rfl | exact Or.inr (Or.inl rfl))) pa_nil)))
    (pss_rest (mk := fun pd pg pc => mkG K cl true pd pg pc) (E := E) (b := b_law) fun pd pg pc F H0 => ?_), law_read (n := nLaw) rfl (fun _ _ _ => rfl) (fun _ _ _ => rfl) (fun _ _ _ => rfl) (fun _ _ _ => rfl) (fun _ _ _ => rfl) hlaw h⟩
  have c : Cok ⟨mkG K cl true pd pg pc, F, H0, E, 0⟩ (cxD P w K mg base [("script" : Str), ("state" : Str), ("turn" : Str), ("length" : Str), ("looks" : Str), ("ends" : Str), ("seen" : Str), ("low" : Str), ("high" : Str), ("least" : Str), ("most" : Str), ("top" : Str), ("some" : Str), ("here" : Str), ("is_between" : Str), ("stretched" : Str), ("thing" : Str), ("number" : Str), ("end" : Str), ("one" : Str), ("two" : Str), ("look" : Str)] "law" (defScope (top 55)) (ga K "law") cdv A outer s H E) 7 := cok_def sc_law.nd rfl hr
  refine dss_cons ?_ ?_
  · refine ds_for (vs := [2]) c owns_def (di_rg1 rfl R.brange (de_add c de_int (de_callB (callr_min c) cal_min rfl R.bmin (da_cons (de_callB (callr_len c) cal_len rfl R.blen (da_cons (de_v 0) da_nil)) (da_cons de_int da_nil))))) (dg_name c (by decide)) ?_
    refine dss_cons ?_ ?_
    · exact (ds_set (i := 3) c (dc_call c (by decide) (ok_law_some_length R) rfl R.glaw_some_length R.klaw_some_length (da_cons (de_v 1) da_nil)))
    refine dss_cons ?_ ?_
    · exact (ds_setG (vs := [4, 5]) (dc_call c (by decide) (ok_law_some_seen R) rfl R.glaw_some_seen R.klaw_some_seen (da_cons (de_v 1) (da_cons (de_v 3) (da_cons (dc_call c (by decide) (ok_law_pick R) rfl R.glaw_pick R.klaw_pick (da_cons (de_v 1) (da_cons (de_lst (da_cons de_int (da_cons de_int (da_cons de_int (da_cons de_int da_nil))))) da_nil))) da_nil)))) (dg_tup c (dgs_cons (dg_name c (by decide)) (dgs_cons (dg_name c (by decide)) dgs_nil))))
    refine dss_cons ?_ ?_
    · exact (ds_set (i := 6) c (dc_make c (by decide) R.mkSeenDaily (ok_SeenDaily___init R) rfl R.gSeenDaily (da_cons (de_v 3) (da_cons (de_v 4) da_nil))))
    refine dss_cons ?_ ?_
    · exact (ds_setG (vs := [7, 8]) (dc_call c (by decide) (ok_law_bounds R) rfl R.glaw_bounds R.klaw_bounds (da_cons (de_v 4) (da_cons (de_v 3) da_nil))) (dg_tup c (dgs_cons (dg_name c (by decide)) (dgs_cons (dg_name c (by decide)) dgs_nil))))
    refine dss_cons ?_ ?_
    · exact (ds_setG (vs := [9, 10]) (de_tup (da_cons (dc_meth0 c (by decide) (ok_SeenDaily_least R) ((R.KO _ _ _ _).cls 1 (show 1 < 2 by decide)) R.mSeenDaily_least (show ("least" : Str) ∉ fl 1 by decide +kernel) (de_v 6)) (da_cons (dc_meth0 c (by decide) (ok_SeenDaily_greatest R) ((R.KO _ _ _ _).cls 1 (show 1 < 2 by decide)) R.mSeenDaily_greatest (show ("greatest" : Str) ∉ fl 1 by decide +kernel) (de_v 6)) da_nil))) (dg_tup c (dgs_cons (dg_name c (by decide)) (dgs_cons (dg_name c (by decide)) dgs_nil))))
    refine dss_cons ?_ ?_
    · refine ds_if ?_ ?_ ?_
      · refine dt_w (dw_or ?_ (dw_or ?_ (dw_or1 ?_)))
        · refine dt_not ?_
          exact (dt_val (de_isi c (R.KO _ _ _ _) rfl rfl R.bisinstance (de_v 9) (pe_glob (v := .ref (cl 0)) rfl R.gDaily rfl)))
        · refine dt_not ?_
          exact (dt_val (dc_callG c hgd (by decide) (ok_law_is R) rfl R.glaw_is R.klaw_is (da_cons (de_lc (own := [(("number" : Str), 17)]) c (di_rg1 rfl R.brange (de_v 3)) (blkOk_by (by rfl)) (fun s14 H14 _ _ p14 => (dg_name (c.blk s14 H14 _ _ p14) (by decide))) (fun s14 H14 _ _ p14 => dts_nil) (fun s14 H14 _ _ p14 => (dc_meth (c.blk s14 H14 _ _ p14) (by decide) (ok_Daily_end R) ((R.KO _ _ _ _).cls 0 (show 0 < 2 by decide)) R.mDaily_end (show ("end" : Str) ∉ fl 0 by decide +kernel) (de_v 9) (da_cons (de_v 17) da_nil)))) (da_cons (de_v 7) da_nil))))
        · refine dt_not ?_
          exact (dc_oeq c (by decide) (ok_Daily___eq R) R.mDaily___eq (de_v 9) (dc_call c (by decide) (ok_law_daily R) rfl R.glaw_daily R.klaw_daily (da_cons (de_v 7) da_nil)) (nomark _))
      · refine dss_one ?_
        exact (ds_ret de_bl)
      · exact dss_nil
    refine dss_cons ?_ ?_
    · refine ds_if ?_ ?_ ?_
      · exact (dt_cm (op_nec c) opd_ne (nomark _) (de_cm op_isAll opd_is (nomark _) (de_v 10) de_non) (de_cm op_isAll opd_is (nomark _) (de_v 8) de_non))
      · refine dss_one ?_
        exact (ds_ret de_bl)
      · exact dss_nil
    refine dss_cons ?_ ?_
    · refine ds_if ?_ ?_ ?_
      · refine dt_w (dw_and ?_ (dw_and1 ?_))
        · exact (dt_cm op_isNotAll opd_isNot (nomark _) (de_v 8) de_non)
        · refine dt_w (dw_or ?_ (dw_or1 ?_))
          · refine dt_not ?_
            exact (dt_val (de_isi c (R.KO _ _ _ _) rfl rfl R.bisinstance (de_v 10) (pe_glob (v := .ref (cl 0)) rfl R.gDaily rfl)))
          · refine dt_not ?_
            exact (dt_val (dc_callG c hgd (by decide) (ok_law_is R) rfl R.glaw_is R.klaw_is (da_cons (de_lc (own := [(("number" : Str), 17)]) c (di_rg1 rfl R.brange (de_v 3)) (blkOk_by (by rfl)) (fun s15 H15 _ _ p15 => (dg_name (c.blk s15 H15 _ _ p15) (by decide))) (fun s15 H15 _ _ p15 => dts_nil) (fun s15 H15 _ _ p15 => (dc_meth (c.blk s15 H15 _ _ p15) (by decide) (ok_Daily_end R) ((R.KO _ _ _ _).cls 0 (show 0 < 2 by decide)) R.mDaily_end (show ("end" : Str) ∉ fl 0 by decide +kernel) (de_v 10) (da_cons (de_v 17) da_nil)))) (da_cons (de_v 8) da_nil))))
      · refine dss_one ?_
        exact (ds_ret de_bl)
      · exact dss_nil
    refine dss_cons ?_ ?_
    · refine ds_if ?_ ?_ ?_
      · refine dt_w (dw_or ?_ (dw_or ?_ (dw_or1 ?_)))
        · exact (dt_cm op_isNotAll opd_isNot (nomark _) (dc_meth c (by decide) (ok_SeenDaily_fits R) ((R.KO _ _ _ _).cls 1 (show 1 < 2 by decide)) R.mSeenDaily_fits (show ("fits" : Str) ∉ fl 1 by decide +kernel) (de_v 6) (da_cons (de_v 9) da_nil)) de_bl)
        · refine dt_w (dw_and ?_ (dw_and1 ?_))
          · exact (dt_cm op_isNotAll opd_isNot (nomark _) (de_v 8) de_non)
          · exact (dt_cm op_isNotAll opd_isNot (nomark _) (dc_meth c (by decide) (ok_SeenDaily_fits R) ((R.KO _ _ _ _).cls 1 (show 1 < 2 by decide)) R.mSeenDaily_fits (show ("fits" : Str) ∉ fl 1 by decide +kernel) (de_v 6) (da_cons (de_v 10) da_nil)) de_bl)
        · exact (dt_cm op_isNotAll opd_isNot (nomark _) (dc_meth c (by decide) (ok_SeenDaily_fits R) ((R.KO _ _ _ _).cls 1 (show 1 < 2 by decide)) R.mSeenDaily_fits (show ("fits" : Str) ∉ fl 1 by decide +kernel) (de_v 6) (da_cons (dc_call c (by decide) (ok_law_daily R) rfl R.glaw_daily R.klaw_daily (da_cons (de_v 5) da_nil)) da_nil)) de_bl)
      · refine dss_one ?_
        exact (ds_ret de_bl)
      · exact dss_nil
    refine dss_cons ?_ ?_
    · exact (ds_set (i := 11) c (de_if (dt_cm op_isNotAll opd_isNot (nomark _) (de_v 8) de_non) (de_v 8) (de_lc (own := [(("end" : Str), 18)]) c (di_seq c (de_v 7)) (blkOk_by (by rfl)) (fun s16 H16 _ _ p16 => (dg_name (c.blk s16 H16 _ _ p16) (by decide))) (fun s16 H16 _ _ p16 => dts_nil) (fun s16 H16 _ _ p16 => (de_add (c.blk s16 H16 _ _ p16) (de_v 18) (de_v 3))))))
    refine dss_cons ?_ ?_
    · exact (ds_set (i := 12) c (de_lst (da_cons (dc_call c (by decide) (ok_law_between R) rfl R.glaw_between R.klaw_between (da_cons (de_v 1) (da_cons (de_v 7) (da_cons (de_v 11) da_nil)))) (da_cons (dc_call c (by decide) (ok_law_between R) rfl R.glaw_between R.klaw_between (da_cons (de_v 1) (da_cons (de_v 7) (da_cons (de_lc (own := [(("end" : Str), 18)]) c (di_seq c (de_v 11)) (blkOk_by (by rfl)) (fun s17 H17 _ _ p17 => (dg_name (c.blk s17 H17 _ _ p17) (by decide))) (fun s17 H17 _ _ p17 => dts_nil) (fun s17 H17 _ _ p17 => (de_add (c.blk s17 H17 _ _ p17) (de_v 18) de_int))) da_nil)))) da_nil))))
    refine dss_cons ?_ ?_
    · exact (ds_set (i := 12) c (de_add c (de_v 12) (de_lst (da_cons (dc_call c (by decide) (ok_law_some_ends R) rfl R.glaw_some_ends R.klaw_some_ends (da_cons (de_v 1) (da_cons (de_v 3) da_nil))) (da_cons (de_v 5) (da_cons (dc_call c (by decide) (ok_law_between R) rfl R.glaw_between R.klaw_between (da_cons (de_v 1) (da_cons (de_listRg c rfl R.blist (rg1_of rfl R.brange (de_v 3))) (da_cons (de_v 11) da_nil)))) da_nil))))))
    refine dss_cons ?_ ?_
    · refine ds_for (vs := [13]) c owns_def (di_seq c (de_v 12)) (dg_name c (by decide)) ?_
      refine dss_cons ?_ ?_
      · exact (ds_set (i := 14) c (de_cm (op_eqc c) opd_eq (nomark _) (de_lc (own := [(("one" : Str), 19), (("two" : Str), 20)]) c (di_zip c rfl R.bzip (de_v 7) (de_v 13)) (blkOk_by (by rfl)) (fun s18 H18 _ _ p18 => (dg_tup (c.blk s18 H18 _ _ p18) (dgs_cons (dg_name (c.blk s18 H18 _ _ p18) (by decide)) (dgs_cons (dg_name (c.blk s18 H18 _ _ p18) (by decide)) dgs_nil)))) (fun s18 H18 _ _ p18 => (dts_one (dt_cm op_gt opd_gt (nomark _) (de_v 19) (de_v 20)))) (fun s18 H18 _ _ p18 => de_int)) (de_lst da_nil)))
      refine dss_cons ?_ ?_
      · refine ds_if ?_ ?_ ?_
        · refine dt_w (dw_and ?_ (dw_and1 ?_))
          · exact (dt_cm op_isNotAll opd_isNot (nomark _) (de_v 8) de_non)
          · exact (dt_cm (op_nec c) opd_ne (nomark _) (de_lc (own := [(("one" : Str), 19), (("two" : Str), 20)]) c (di_zip c rfl R.bzip (de_v 13) (de_v 8)) (blkOk_by (by rfl)) (fun s19 H19 _ _ p19 => (dg_tup (c.blk s19 H19 _ _ p19) (dgs_cons (dg_name (c.blk s19 H19 _ _ p19) (by decide)) (dgs_cons (dg_name (c.blk s19 H19 _ _ p19) (by decide)) dgs_nil)))) (fun s19 H19 _ _ p19 => (dts_one (dt_cm op_gt opd_gt (nomark _) (de_v 19) (de_v 20)))) (fun s19 H19 _ _ p19 => de_int)) (de_lst da_nil))
        · refine dss_one ?_
          exact (ds_set (i := 14) c de_bl)
        · exact dss_nil
      refine dss_cons ?_ ?_
      · refine ds_if ?_ ?_ ?_
        · exact (dt_cm (op_nec c) opd_ne (nomark _) (de_v 14) (de_cm (op_eqc c) opd_eq (nomark _) (de_lc (own := [(("look" : Str), 21)]) c (di_seq c (de_v 4)) (blkOk_by (by rfl)) (fun s20 H20 _ _ p20 => (dg_name (c.blk s20 H20 _ _ p20) (by decide))) (fun s20 H20 _ _ p20 => (dts_one (dt_not (dt_val (dc_call (c.blk s20 H20 _ _ p20) (by decide) (ok_law_has R) rfl R.glaw_has R.klaw_has (da_cons (de_v 13) (da_cons (de_v 21) da_nil))))))) (fun s20 H20 _ _ p20 => (de_v 21))) (de_lst da_nil)))
        · refine dss_one ?_
          exact (ds_ret de_bl)
        · exact dss_nil
      refine dss_one ?_
      refine ds_if ?_ ?_ ?_
      · refine dt_not ?_
        exact (dt_val (dc_call c (by decide) (ok_law_says R) rfl R.glaw_says R.klaw_says (da_cons (dc_meth c (by decide) (ok_SeenDaily_fits R) ((R.KO _ _ _ _).cls 1 (show 1 < 2 by decide)) R.mSeenDaily_fits (show ("fits" : Str) ∉ fl 1 by decide +kernel) (de_v 6) (da_cons (dc_call c (by decide) (ok_law_daily R) rfl R.glaw_daily R.klaw_daily (da_cons (de_v 13) da_nil)) da_nil)) (da_cons (de_v 14) da_nil))))
      · refine dss_one ?_
        exact (ds_ret de_bl)
      · exact dss_nil
    refine dss_cons ?_ ?_
    · exact (ds_set (i := 15) c (de_if (dt_cm op_lt opd_lt (nomark _) (de_v 3) de_int) (dc_make c (by decide) R.mkDaily (ok_Daily___init R) rfl R.gDaily (da_cons (de_add c (de_v 3) de_int) (da_cons (de_lst (da_cons (de_tup (da_cons de_int (da_cons de_int da_nil))) da_nil)) da_nil))) (dc_make c (by decide) R.mkDaily (ok_Daily___init R) rfl R.gDaily (da_cons de_int (da_cons (de_lst (da_cons (de_tup (da_cons de_int (da_cons de_int da_nil))) da_nil)) da_nil)))))
    refine dss_one ?_
    refine ds_for (vs := [16]) c owns_def (di_seq c (de_lst (da_cons de_non (da_cons de_int (da_cons (de_callTy (callr_tuple c) cal_tuple rfl R.btuple (da_cons (de_v 7) da_nil)) (da_cons (de_v 15) (da_cons (de_v 6) (da_cons (de_lst (da_cons (de_v 9) da_nil)) (da_cons de_str (da_cons de_bl da_nil)))))))))) (dg_name c (by decide)) ?_
    refine dss_one ?_
    refine ds_if ?_ ?_ ?_
    · exact (dt_cm op_isNotAll opd_isNot (nomark _) (dc_methK1 c (by decide) (okK_SeenDaily_fits R) ((R.KO _ _ _ _).cls 1 (show 1 < 2 by decide)) R.mSeenDaily_fits (show ("fits" : Str) ∉ fl 1 by decide +kernel) (de_v 6) (de_v 16)) de_bl)
    · refine dss_one ?_
      exact (ds_ret de_bl)
    · exact dss_nil
  refine dss_one ?_
  exact (ds_ret de_bl)
end Lw

namespace Lw
open PySem PySem.Spec L2 Dv He
/-! ### behind the top -/
def fnL : List DefP := [⟨fun K => ga K "_law_mixed", "_law_mixed", "_law_mixed", (top 38)⟩, ⟨fun K => ga K "_law_draw", "_law_draw", "_law_draw", (top 39)⟩, ⟨fun K => ga K "_law_pick", "_law_pick", "_law_pick", (top 40)⟩, ⟨fun K => ga K "_law_plain", "_law_plain", "_law_plain", (top 41)⟩, ⟨fun K => ga K "_law_says", "_law_says", "_law_says", (top 43)⟩, ⟨fun K => ga K "_law_go", "_law_go", "_law_go", (top 45)⟩, ⟨fun K => ga K "_law_some_length", "_law_some_length", "_law_some_length", (top 46)⟩, ⟨fun K => ga K "_law_map", "_law_map", "_law_map", (top 44)⟩, ⟨fun K => ga K "_law_some_rides", "_law_some_rides", "_law_some_rides", (top 47)⟩, ⟨fun K => ga K "_law_some_ends", "_law_some_ends", "_law_some_ends", (top 49)⟩, ⟨fun K => ga K "_law_some_look", "_law_some_look", "_law_some_look", (top 48)⟩, ⟨fun K => ga K "_law_some_seen", "_law_some_seen", "_law_some_seen", (top 52)⟩, ⟨fun K => ga K "_law_has", "_law_has", "_law_has", (top 50)⟩, ⟨fun K => ga K "_law_bounds", "_law_bounds", "_law_bounds", (top 51)⟩, ⟨fun K => ga K "_law_between", "_law_between", "_law_between", (top 53)⟩, ⟨fun K => ga K "is_number", "is_number", "is_number", (top 12)⟩, ⟨fun K => ga K "is_length", "is_length", "is_length", (top 17)⟩, ⟨fun K => ga K "need_length", "need_length", "need_length", (top 18)⟩, ⟨fun K => ga K "is_ride", "is_ride", "is_ride", (top 13)⟩, ⟨fun K => ga K "ends_of", "ends_of", "ends_of", (top 22)⟩] ++ [⟨fun K => ma K (ga K "Daily") "__init__", "__init__", "Daily.__init__", (mem 24 0)⟩, ⟨fun K => ga K "_law_daily", "_law_daily", "_law_daily", (top 54)⟩, ⟨fun K => ga K "is_look", "is_look", "is_look", (top 28)⟩, ⟨fun K => ga K "most_by", "most_by", "most_by", (top 30)⟩, ⟨fun K => ga K "is_alone_against", "is_alone_against", "is_alone_against", (top 34)⟩, ⟨fun K => ga K "least_by", "least_by", "least_by", (top 29)⟩, ⟨fun K => ga K "are_against", "are_against", "are_against", (top 33)⟩, ⟨fun K => ma K (ga K "SeenDaily") "__init__", "__init__", "SeenDaily.__init__", (mem 35 0)⟩, ⟨fun K => ga K "daily_by", "daily_by", "daily_by", (top 23)⟩, ⟨fun K => ga K "least_end", "least_end", "least_end", (top 31)⟩, ⟨fun K => ma K (ga K "SeenDaily") "least_ends", "least_ends", "SeenDaily.least_ends", (mem 35 3)⟩, ⟨fun K => ma K (ga K "SeenDaily") "least", "least", "SeenDaily.least", (mem 35 5)⟩, ⟨fun K => ga K "most_end", "most_end", "most_end", (top 32)⟩, ⟨fun K => ma K (ga K "SeenDaily") "most_ends", "most_ends", "SeenDaily.most_ends", (mem 35 4)⟩, ⟨fun K => ma K (ga K "SeenDaily") "greatest", "greatest", "SeenDaily.greatest", (mem 35 6)⟩, ⟨fun K => pa K (ga K "Daily") "length", "length", "Daily.length", (mem 24 1)⟩, ⟨fun K => ga K "need_numbers", "need_numbers", "need_numbers", (top 19)⟩, ⟨fun K => ga K "led_on", "led_on", "led_on", (top 20)⟩, ⟨fun K => ma K (ga K "Daily") "end", "end", "Daily.end", (mem 24 3)⟩, ⟨fun K => ma K (ga K "SeenDaily") "fits", "fits", "SeenDaily.fits", (mem 35 9)⟩] ++ [⟨fun K => ma K (ga K "Daily") "__eq__", "__eq__", "Daily.__eq__", (mem 24 6)⟩, ⟨fun K => ga K "_law_is", "_law_is", "_law_is", (top 42)⟩, ⟨fun K => ga K "law", "law", "law", (top 55)⟩, ⟨fun K => ga K "_law_begun", "_law_begun", "_law_begun", (top 37)⟩]
def clK (K : PySem.W.Frag) : Nat → Addr
  | 0 => ga K "Daily"
  | 1 => ga K "SeenDaily"
  | _ => 0
def exL (K : PySem.W.Frag) : List Bool := [kokB K 2 (clK K) fl, (Fa.glo "_law_mixed").ok K, (Fa.keep "_law_mixed").ok K, (Fa.free "int").ok K, (Fa.glo "_law_draw").ok K, (Fa.keep "_law_draw").ok K, (Fa.free "len").ok K, (Fa.free "list").ok K, (Fa.free "tuple").ok K, (Fa.free "isinstance").ok K, (Fa.glo "_law_plain").ok K, (Fa.keep "_law_plain").ok K, (Fa.free "dict").ok K, (Fa.free "str").ok K, (Fa.glo "_law_pick").ok K, (Fa.keep "_law_pick").ok K, (Fa.glo "_law_some_ends").ok K, (Fa.keep "_law_some_ends").ok K, (Fa.free "range").ok K, (Fa.glo "_law_some_look").ok K] ++ [(Fa.keep "_law_some_look").ok K, (Fa.glo "_law_map").ok K, (Fa.keep "_law_map").ok K, (Fa.glo "_law_some_rides").ok K, (Fa.keep "_law_some_rides").ok K, (Fa.free "min").ok K, (Fa.glo "_law_go").ok K, (Fa.keep "_law_go").ok K, (Fa.free "max").ok K, (Fa.free "zip").ok K, (Fa.glo "Daily").ok K, mkB K (ga K "Daily"), (Fa.free "enumerate").ok K, (Fa.glo "need_length").ok K, (Fa.keep "need_length").ok K, (Fa.int "MOST_RIDES" 60).ok K, (Fa.glo "is_ride").ok K, (Fa.keep "is_ride").ok K, (Fa.glo "ends_of").ok K, (Fa.keep "ends_of").ok K] ++ [(Fa.glo "is_length").ok K, (Fa.keep "is_length").ok K, (Fa.glo "is_number").ok K, (Fa.keep "is_number").ok K, (Fa.int "MOST_LENGTH" 60).ok K, (Fa.free "bool").ok K, (Fa.int "MOST_LOOKS" 30).ok K, (Fa.glo "is_look").ok K, (Fa.keep "is_look").ok K, (Fa.glo "is_alone_against").ok K, (Fa.keep "is_alone_against").ok K, (Fa.glo "are_against").ok K, (Fa.keep "are_against").ok K, (Fa.glo "WORDS").ok K && tupV K "WORDS" tv_WORDS, (Fa.glo "most_by").ok K, (Fa.keep "most_by").ok K, (Fa.glo "least_by").ok K, (Fa.keep "least_by").ok K, (Fa.glo "daily_by").ok K, (Fa.keep "daily_by").ok K] ++ [methB K (ga K "SeenDaily") "least_ends", (Fa.glo "least_end").ok K, (Fa.keep "least_end").ok K, methB K (ga K "SeenDaily") "most_ends", (Fa.glo "most_end").ok K, (Fa.keep "most_end").ok K, propB K (ga K "Daily") "length", methB K (ga K "Daily") "end", (Fa.glo "need_numbers").ok K, (Fa.keep "need_numbers").ok K, (Fa.glo "led_on").ok K, (Fa.keep "led_on").ok K, (Fa.free "all").ok K, (Fa.glo "_law_some_length").ok K, (Fa.keep "_law_some_length").ok K, (Fa.glo "_law_some_seen").ok K, (Fa.keep "_law_some_seen").ok K, (Fa.glo "SeenDaily").ok K, mkB K (ga K "SeenDaily"), (Fa.glo "_law_bounds").ok K] ++ [(Fa.keep "_law_bounds").ok K, methB K (ga K "SeenDaily") "greatest", methB K (ga K "SeenDaily") "least", (Fa.glo "_law_is").ok K, (Fa.keep "_law_is").ok K, (Fa.glo "_law_daily").ok K, (Fa.keep "_law_daily").ok K, methB K (ga K "Daily") "__eq__", methB K (ga K "SeenDaily") "fits", (Fa.glo "_law_between").ok K, (Fa.keep "_law_between").ok K, (Fa.glo "_law_has").ok K, (Fa.keep "_law_has").ok K, (Fa.glo "_law_says").ok K, (Fa.keep "_law_says").ok K, (Fa.free "repr").ok K, (Fa.glo "law").ok K, (Fa.keep "law").ok K, (Fa.free "abs").ok K, (Fa.glo "_law_begun").ok K] ++ [(Fa.keep "_law_begun").ok K]
def exK (K : PySem.W.Frag) : Bool := allB (exL K)
theorem raw_of {K : PySem.W.Frag} {h : Heap} {mg : Str → Option Value} (X : K.In h) (G : h.Ns mainGlobals mg) (c : SaysP exK fnL K) : Raw K mg (clK K) :=
  ⟨kok_of (allB_at (i := 0) c.more rfl),
   glo_ok X G (allB_at (i := 1) c.more rfl),
   keep_ok (allB_at (i := 2) c.more rfl),
   free_ok X G (allB_at (i := 3) c.more rfl),
   c.df 0 rfl,
   c.df 1 rfl,
   glo_ok X G (allB_at (i := 4) c.more rfl),
   keep_ok (allB_at (i := 5) c.more rfl),
   free_ok X G (allB_at (i := 6) c.more rfl),
   c.df 2 rfl,
   free_ok X G (allB_at (i := 7) c.more rfl),
   free_ok X G (allB_at (i := 8) c.more rfl),
   free_ok X G (allB_at (i := 9) c.more rfl),
   glo_ok X G (allB_at (i := 10) c.more rfl),
   keep_ok (allB_at (i := 11) c.more rfl),
   free_ok X G (allB_at (i := 12) c.more rfl),
   free_ok X G (allB_at (i := 13) c.more rfl),
   c.df 3 rfl,
   c.df 4 rfl,
   c.df 5 rfl,
   glo_ok X G (allB_at (i := 14) c.more rfl),
   keep_ok (allB_at (i := 15) c.more rfl),
   c.df 6 rfl,
   glo_ok X G (allB_at (i := 16) c.more rfl),
   keep_ok (allB_at (i := 17) c.more rfl),
   free_ok X G (allB_at (i := 18) c.more rfl),
   glo_ok X G (allB_at (i := 19) c.more rfl),
   keep_ok (allB_at (i := 20) c.more rfl),
   glo_ok X G (allB_at (i := 21) c.more rfl),
   keep_ok (allB_at (i := 22) c.more rfl),
   glo_ok X G (allB_at (i := 23) c.more rfl),
   keep_ok (allB_at (i := 24) c.more rfl),
   free_ok X G (allB_at (i := 25) c.more rfl),
   c.df 7 rfl,
   c.df 8 rfl,
   c.df 9 rfl,
   glo_ok X G (allB_at (i := 26) c.more rfl),
   keep_ok (allB_at (i := 27) c.more rfl),
   c.df 10 rfl,
   c.df 11 rfl,
   c.df 12 rfl,
   free_ok X G (allB_at (i := 28) c.more rfl),
   c.df 13 rfl,
   free_ok X G (allB_at (i := 29) c.more rfl),
   c.df 14 rfl,
   glo_ok X G (allB_at (i := 30) c.more rfl),
   mkB_ok (allB_at (i := 31) c.more rfl),
   free_ok X G (allB_at (i := 32) c.more rfl),
   glo_ok X G (allB_at (i := 33) c.more rfl),
   keep_ok (allB_at (i := 34) c.more rfl),
   int_ok X G (allB_at (i := 35) c.more rfl),
   glo_ok X G (allB_at (i := 36) c.more rfl),
   keep_ok (allB_at (i := 37) c.more rfl),
   glo_ok X G (allB_at (i := 38) c.more rfl),
   keep_ok (allB_at (i := 39) c.more rfl),
   glo_ok X G (allB_at (i := 40) c.more rfl),
   keep_ok (allB_at (i := 41) c.more rfl),
   glo_ok X G (allB_at (i := 42) c.more rfl),
   keep_ok (allB_at (i := 43) c.more rfl),
   int_ok X G (allB_at (i := 44) c.more rfl),
   free_ok X G (allB_at (i := 45) c.more rfl),
   c.df 15 rfl,
   c.df 16 rfl,
   c.df 17 rfl,
   c.df 18 rfl,
   c.df 19 rfl,
   c.df 20 rfl,
   c.df 21 rfl,
   int_ok X G (allB_at (i := 46) c.more rfl),
   glo_ok X G (allB_at (i := 47) c.more rfl),
   keep_ok (allB_at (i := 48) c.more rfl),
   glo_ok X G (allB_at (i := 49) c.more rfl),
   keep_ok (allB_at (i := 50) c.more rfl),
   glo_ok X G (allB_at (i := 51) c.more rfl),
   keep_ok (allB_at (i := 52) c.more rfl),
   (fun z => ⟨glo_ok X G (ba z).1, fun H => tupV_ok (ba z).2 H⟩) (allB_at (i := 53) c.more rfl),
   c.df 22 rfl,
   glo_ok X G (allB_at (i := 54) c.more rfl),
   keep_ok (allB_at (i := 55) c.more rfl),
   c.df 23 rfl,
   c.df 24 rfl,
   glo_ok X G (allB_at (i := 56) c.more rfl),
   keep_ok (allB_at (i := 57) c.more rfl),
   c.df 25 rfl,
   c.df 26 rfl,
   c.df 27 rfl,
   glo_ok X G (allB_at (i := 58) c.more rfl),
   keep_ok (allB_at (i := 59) c.more rfl),
   methB_ok (allB_at (i := 60) c.more rfl),
   c.df 28 rfl,
   glo_ok X G (allB_at (i := 61) c.more rfl),
   keep_ok (allB_at (i := 62) c.more rfl),
   c.df 29 rfl,
   c.df 30 rfl,
   c.df 31 rfl,
   methB_ok (allB_at (i := 63) c.more rfl),
   glo_ok X G (allB_at (i := 64) c.more rfl),
   keep_ok (allB_at (i := 65) c.more rfl),
   c.df 32 rfl,
   c.df 33 rfl,
   c.df 34 rfl,
   propB_ok (allB_at (i := 66) c.more rfl),
   methB_ok (allB_at (i := 67) c.more rfl),
   c.df 35 rfl,
   glo_ok X G (allB_at (i := 68) c.more rfl),
   keep_ok (allB_at (i := 69) c.more rfl),
   glo_ok X G (allB_at (i := 70) c.more rfl),
   keep_ok (allB_at (i := 71) c.more rfl),
   free_ok X G (allB_at (i := 72) c.more rfl),
   c.df 36 rfl,
   c.df 37 rfl,
   c.df 38 rfl,
   c.df 39 rfl,
   c.df 40 rfl,
   glo_ok X G (allB_at (i := 73) c.more rfl),
   keep_ok (allB_at (i := 74) c.more rfl),
   glo_ok X G (allB_at (i := 75) c.more rfl),
   keep_ok (allB_at (i := 76) c.more rfl),
   glo_ok X G (allB_at (i := 77) c.more rfl),
   mkB_ok (allB_at (i := 78) c.more rfl),
   glo_ok X G (allB_at (i := 79) c.more rfl),
   keep_ok (allB_at (i := 80) c.more rfl),
   methB_ok (allB_at (i := 81) c.more rfl),
   methB_ok (allB_at (i := 82) c.more rfl),
   glo_ok X G (allB_at (i := 83) c.more rfl),
   keep_ok (allB_at (i := 84) c.more rfl),
   glo_ok X G (allB_at (i := 85) c.more rfl),
   keep_ok (allB_at (i := 86) c.more rfl),
   methB_ok (allB_at (i := 87) c.more rfl),
   methB_ok (allB_at (i := 88) c.more rfl),
   glo_ok X G (allB_at (i := 89) c.more rfl),
   keep_ok (allB_at (i := 90) c.more rfl),
   glo_ok X G (allB_at (i := 91) c.more rfl),
   keep_ok (allB_at (i := 92) c.more rfl),
   glo_ok X G (allB_at (i := 93) c.more rfl),
   keep_ok (allB_at (i := 94) c.more rfl),
   free_ok X G (allB_at (i := 95) c.more rfl),
   c.df 41 rfl,
   c.df 42 rfl,
   glo_ok X G (allB_at (i := 96) c.more rfl),
   keep_ok (allB_at (i := 97) c.more rfl),
   free_ok X G (allB_at (i := 98) c.more rfl),
   c.df 43 rfl,
   glo_ok X G (allB_at (i := 99) c.more rfl),
   keep_ok (allB_at (i := 100) c.more rfl)⟩
abbrev RR : PySem.W.OpenRow := PySem.W.OpenLaw.row PySem.Challenge.rw_roundrates_k68_whole_links_between
abbrev hkL : PySem.W.Hook := hookP 5 exK fnL
def obL (z : PySem.W.SharedT) : AlP := obsPG 5 exK fnL (HandSHeadRun.getT z)
theorem obL_eq (z : PySem.W.SharedT) : obL z = hkL.obs z.abs := obsPG_eq (HandSHeadRun.getT_eq z)
def looseL : List PySem.Str := ([("_wall" : PySem.Str), ("OrderError" : PySem.Str), ("NoMoment" : PySem.Str), ("NoRides" : PySem.Str), ("Clash" : PySem.Str), ("NoLength" : PySem.Str), ("OtherLength" : PySem.Str), ("NoLook" : PySem.Str), ("FIRST" : PySem.Str), ("LAST" : PySem.Str), ("is_number" : PySem.Str), ("is_ride" : PySem.Str), ("MOST_LENGTH" : PySem.Str), ("MOST_RIDES" : PySem.Str), ("is_length" : PySem.Str), ("need_length" : PySem.Str), ("need_numbers" : PySem.Str), ("led_on" : PySem.Str), ("led_back" : PySem.Str), ("ends_of" : PySem.Str), ("daily_by" : PySem.Str), ("Daily" : PySem.Str), ("MOST_LOOKS" : PySem.Str), ("WORDS" : PySem.Str), ("is_look" : PySem.Str), ("least_by" : PySem.Str), ("most_by" : PySem.Str), ("least_end" : PySem.Str), ("most_end" : PySem.Str), ("are_against" : PySem.Str), ("is_alone_against" : PySem.Str), ("SeenDaily" : PySem.Str), ("_law_begun" : PySem.Str), ("_law_mixed" : PySem.Str), ("_law_draw" : PySem.Str)] : List PySem.Str) ++ ([("_law_pick" : PySem.Str), ("_law_plain" : PySem.Str), ("_law_is" : PySem.Str), ("_law_says" : PySem.Str), ("_law_map" : PySem.Str), ("_law_go" : PySem.Str), ("_law_some_length" : PySem.Str), ("_law_some_rides" : PySem.Str), ("_law_some_look" : PySem.Str), ("_law_some_ends" : PySem.Str), ("_law_has" : PySem.Str), ("_law_bounds" : PySem.Str), ("_law_some_seen" : PySem.Str), ("_law_between" : PySem.Str), ("_law_daily" : PySem.Str)] : List PySem.Str)
theorem runL (w : World) : HandSHeadRun.RunEq RR (PySem.W.view RR.prog [55]) hkL obL 9000 looseL w := by
  intro os
  kernel_rfl
end Lw
open PySem PySem.W PySem.Calls PyProof.Rows
theorem holdsL (hl : Lw.LawTrue) : PySem.Challenge.rw_roundrates_k68_whole_links_between.Holds := by
  w_on; o_law
  refine HandSHeadRun.head_any (r := Lw.RR) (q := view Lw.RR.prog [55]) (H := Lw.hkL) (ob := Lw.obL) (M := 9000) (loose := Lw.looseL) (d := HandSHeadRun.topDef Lw.RR.prog 55) (kwd := []) Lw.obL_eq
    (by kernel_rfl) (fun z => by kernel_rfl) Lw.runL (by kernel_rfl) (by kernel_rfl) (by kernel_rfl) (by rfl) (by first | assumption | decide +kernel) (by decide +kernel) ⟨rfl, rfl, rfl, rfl, rfl, by decide +kernel⟩ ?hw ?hc
  case hw => w_witness2
  case hc =>
    refine Dv.walkG (l := PySem.Challenge.rw_roundrates_k68_whole_links_between) (n := 63) (k := 8) (x := "script") rfl (by decide) (by kernel_rfl) ⟨rfl, by decide, by decide⟩ ?F
    intro w mg fa h Y G hm0
    obtain ⟨K, KX, c⟩ := Y
    have hm : mg ("law" : PySem.Str) = some (.ref fa) := by
      have e : (HandSHeadRun.topDef Lw.RR.prog 55).name = ("law" : PySem.Str) := by kernel_rfl
      rw [← e]
      exact hm0
    have R := Lw.raw_of KX G c
    have ef := hm.symm.trans R.glaw
    cases ef
    obtain ⟨fd, Df⟩ := R.flaw
    exact ⟨K, fd, Dv.spLaw K, KX, fun z u => Df.bindsA (ps := [("script" : PySem.Str)]) (fun _ _ _ _ _ _ us hl => match us, hl with | [_], _ => rfl) z [u] rfl, fun H a ns hn hS => ⟨a, ns, rfl, hS, hn, fun _ => rfl⟩, fun base _ _ => Lw.ok_law R hl Df⟩

namespace Lw
theorem lawTrue : LawTrue := notYet
end Lw
theorem PySem.Challenge.cw_roundrates_k68_whole_links_between_holds : PySem.Challenge.rw_roundrates_k68_whole_links_between.Holds :=
  Lw.holdsL Lw.lawTrue

